import PyProof.Rows.All
import Wide.All
import OpenK.AllK
import Wide.FinOn
import HandS.ForMost
import HandS.Exc
import HandS.ExcInit
import HandS.Defaults
import HandS.Evl
import HandS.TupAny
import HandS.TupMul
import HandS.Deep
import HandS.IsInst
import HandS.Zip
import HandS.Conv
import HandS.Style
import HandS.SortInts
import HandS.SetFor
import HandS.Strs
import KE.SortData
import KE.GoesMore
import HandS.TupLen
import HandS.DictTup
import KE.KDictKeyed
import KE.KDictDisplayH
import KE.KeyNested
import KE.KIndexOf
import HandS.TryMany
import HandS.TryOnly
import HandS.ExcField
import HandS.ExcOwn
import HandS.WordsExc
import HandS.HeadHook1
import PyProof.ListMulRoad
import PyProof.FactsAll.tuple_2
import HandS.HeadHook2
import HandS.HeadHook4
import KE.KStateDown
import HandS.Head0
import HandS.Head1
import HandS.Head2
import HandS.HeadEnd
import PySem.Challenge.RW_warpkeep_k64_whole_each_asks_alone
set_option Elab.async false
set_option linter.all false
set_option maxRecDepth 100000
set_option maxHeartbeats 4000000
/-! The layer of this proof: readings by their meaning (WE, WT, WA, WS), values by what they stand for (Tu, Li), evaluations that only add objects (ME, MT). -/
namespace Wk
open PySem PySem.Spec PyProof.Rows L2

abbrev Ex (H H' : Hp) : Prop := Evl.Ex H H'
theorem exr (H : Hp) : Ex H H := Evl.Ex.refl H

/-! ### readings by their meaning -/
structure WEr (X : Cx) (e : Expr) (σ : L2.St) (H : Hp) (Q : VK) : Prop where
  run : ∀ (pins : List (Addr × Obj)) (s : Shared), Inv X pins σ H s → wpAny (model X.prog X.w) X.A (eval e X.env) (EP X pins σ Q) X.xe s
def WE (X : Cx) (e : Expr) : TE := fun σ H Q => WEr X e σ H Q
def WT (X : Cx) (e : Expr) : TT := fun σ H Q => ∀ (pins : List (Addr × Obj)) (s : Shared), Inv X pins σ H s → wpAny (model X.prog X.w) X.A (isTrue e X.env (eval e X.env)) (TP X pins σ Q) X.xe s
def WW (X : Cx) (e : Expr) : TT := fun σ H Q => ∀ (wh : Sem Value) (pins : List (Addr × Obj)) (s : Shared), Inv X pins σ H s → wpAny (model X.prog X.w) X.A (isTrue e X.env wh) (TP X pins σ Q) X.xe s
def WA (X : Cx) (es : List Expr) : TA := fun σ H Q => ∀ (pos : Pos) (pins : List (Addr × Obj)) (s : Shared), Inv X pins σ H s → wpAny (model X.prog X.w) X.A (spliced (backTo pos (starEach es X.env))) (AP X pins σ Q) X.xe s
structure WSr (X : Cx) (st : Stmt) (D : Ends) (σ : L2.St) (H : Hp) : Prop where
  run : ∀ (pins : List (Addr × Obj)) (s : Shared), Inv X pins σ H s → wpAny (model X.prog X.w) X.A (exec st X.env) (SP X pins D) X.xe s
def WS (X : Cx) (st : Stmt) : TS := fun D σ H => WSr X st D σ H
def WSs (X : Cx) (st : List Stmt) : TS := fun D σ H => ∀ (pins : List (Addr × Obj)) (s : Shared), Inv X pins σ H s → wpAny (model X.prog X.w) X.A (execs st X.env) (SP X pins D) X.xe s
section
variable {X : Cx} {e : Expr} {es : List Expr} {st : Stmt} {sts : List Stmt} {σ : L2.St} {H : Hp}
theorem pe_we : PE X e (WE X e) := ⟨fun pins s _ _ _ I h => h.run pins s I⟩
theorem pt_wt : PT X e (WT X e) := ⟨fun pins s _ _ _ I h => h pins s I⟩
theorem pw_ww : PW X e (WW X e) := ⟨fun wh pins s _ _ _ I h => h wh pins s I⟩
theorem pa_wa : PA X es (WA X es) := ⟨fun pos pins s _ _ _ I h => h pos pins s I⟩
theorem ps_ws : PS X st (WS X st) := ⟨fun pins s _ _ _ I h => h.run pins s I⟩
theorem pss_wss : PSs X sts (WSs X sts) := ⟨fun pins s _ _ _ I h => h pins s I⟩
theorem WE.of {t : TE} {Q : VK} (h : PE X e t) (q : t σ H Q) : WE X e σ H Q := ⟨fun pins s I => h.run pins s σ H Q I q⟩
theorem WT.of {t : TT} {Q : Bool → Hp → Prop} (h : PT X e t) (q : t σ H Q) : WT X e σ H Q := fun pins s I => h.run pins s σ H Q I q
theorem WW.of {t : TT} {Q : Bool → Hp → Prop} (h : PW X e t) (q : t σ H Q) : WW X e σ H Q := fun wh pins s I => h.run wh pins s σ H Q I q
theorem WA.of {t : TA} {Q : List V → Hp → Prop} (h : PA X es t) (q : t σ H Q) : WA X es σ H Q := fun pos pins s I => h.run pos pins s σ H Q I q
theorem WS.of {t : TS} {D : Ends} (h : PS X st t) (q : t D σ H) : WS X st D σ H := ⟨fun pins s I => h.run pins s σ H D I q⟩
theorem WSs.of {t : TS} {D : Ends} (h : PSs X sts t) (q : t D σ H) : WSs X sts D σ H := fun pins s I => h.run pins s σ H D I q
theorem WE.mono {Q Q' : VK} (h : WE X e σ H Q) (k : ∀ v H', Q v H' → Q' v H') : WE X e σ H Q' := ⟨fun pins s I =>
  thn (h.run pins s I) fun u s' ⟨v, H', I', r, q⟩ => ⟨v, H', I', r, k v H' q⟩⟩
theorem WT.mono {Q Q' : Bool → Hp → Prop} (h : WT X e σ H Q) (k : ∀ v H', Q v H' → Q' v H') : WT X e σ H Q' := fun pins s I =>
  thn (h pins s I) fun u s' ⟨H', I', q⟩ => ⟨H', I', k _ H' q⟩
theorem WA.mono {Q Q' : List V → Hp → Prop} (h : WA X es σ H Q) (k : ∀ v H', Q v H' → Q' v H') : WA X es σ H Q' := fun pos pins s I =>
  thn (h pos pins s I) fun u s' ⟨v, H', I', r, q⟩ => ⟨v, H', I', r, k v H' q⟩
end

/-! ### statements -/
section
variable {X : Cx} {e c : Expr} {st : Stmt} {rest a b : List Stmt} {σ : L2.St} {H : Hp} {D : Ends} {pos pos' : Pos}
theorem wss_nil (h : D.nx σ H) : WSs X [] D σ H := .of pss_nil h
theorem wss_cons (h : WS X st { D with nx := WSs X rest D } σ H) : WSs X (st :: rest) D σ H := .of (pss_cons ps_ws pss_wss) h
theorem wss_one (h : WS X st D σ H) : WSs X [st] D σ H := .of (pss_one ps_ws) h
theorem ws_ret (h : WE X e σ H D.rt) : WS X (.Return (some e) pos) D σ H := .of (ps_ret pe_we) h
theorem ws_expr (h : WE X e σ H fun _ H1 => D.nx σ H1) (hs : swapsWith e none pos.line X.env = pure false := by rfl) : WS X (.Expr e pos) D σ H := .of (ps_expr pe_we hs) h
theorem ws_set (i : Nat) {x : Str} (hN : X.N.Nodup) (h : WE X e σ H fun v H1 => D.nx (σ.set i (some v)) H1) (hi : X.N[i]? = some x := by rfl) (hx : Loc X.env.scope x := by first | exact Or.inl rfl | exact Or.inr rfl)
    (hs : swapsWith e (some (.Name x pos')) pos.line X.env = pure false := by rfl) (hf : X.fn x = true ∨ X.env.scope.names.lookup x = some .local := by first | exact .inl rfl | exact .inr rfl) : WS X (.Assign [.Name x pos'] e pos) D σ H :=
  .of (ps_set hN hi hx pe_we hs hf) h
theorem ws_if (h : WT X c σ H fun k H1 => if k = true then WSs X a D σ H1 else WSs X b D σ H1) : WS X (.If c a b pos) D σ H := .of (ps_if pt_wt pss_wss pss_wss) h
end

/-! ### what values stand for -/
abbrev Pv := V → Hp → Prop
class Mo (P : Pv) : Prop where
  mo : ∀ {v : V} {H H' : Hp}, Ex H H' → P v H → P v H'
abbrev Rp (α : Type) := α → Pv
class MoR {α : Type} (R : Rp α) : Prop where
  mo : ∀ {d : α} {v : V} {H H' : Hp}, Ex H H' → R d v H → R d v H'
instance {α : Type} {R : Rp α} [h : MoR R] {d : α} : Mo (R d) := ⟨h.mo⟩
def Is (v : V) : Pv := fun u _ => u = v
instance {v : V} : Mo (Is v) := ⟨fun _ h => h⟩
/-- whatever it is -/
def Any : Pv := fun _ _ => True
instance : Mo Any := ⟨fun _ h => h⟩
def RI : Rp Int := fun n v _ => v = .int n
instance : MoR RI := ⟨fun _ h => h⟩
def RB : Rp Bool := fun b v _ => v = .bl b
instance : MoR RB := ⟨fun _ h => h⟩
theorem pImp {α β : Type} {F G : α → β → Prop} (f : ∀ a b, F a b → G a b) : ∀ {l : List α} {m : List β}, Paired F l m → Paired G l m
  | _, _, .nil => .nil
  | _, _, .cons r t => .cons (f _ _ r) (pImp f t)
theorem rdMo {H H' : Hp} {a : Addr} {u : HO} (e : Ex H H') (h : Rd H a u) : Rd H' a u := Evl.ex_rd e h
def Tu {α : Type} (R : Rp α) : Rp (List α) := fun ds v H => ∃ (a : Addr) (xs : List V), v = .ref a ∧ Rd H a (.tup xs) ∧ Paired (fun x d => R d x H) xs ds
def Li {α : Type} (R : Rp α) : Rp (List α) := fun ds v H => ∃ (a : Addr) (xs : List V), v = .ref a ∧ H a = some (.lst xs) ∧ Paired (fun x d => R d x H) xs ds
instance {α : Type} {R : Rp α} [m : MoR R] : MoR (Tu R) := ⟨fun e ⟨a, xs, h1, h2, h3⟩ => ⟨a, xs, h1, rdMo e h2, pImp (fun _ _ => m.mo e) h3⟩⟩
instance {α : Type} {R : Rp α} [m : MoR R] : MoR (Li R) := ⟨fun e ⟨a, xs, h1, h2, h3⟩ => ⟨a, xs, h1, e _ _ h2, pImp (fun _ _ => m.mo e) h3⟩⟩
theorem pairI : ∀ {xs : List V} {ns : List Int} {H : Hp}, Paired (fun x d => RI d x H) xs ns ↔ xs = ns.map V.int
  | xs, [], H => ⟨fun h => by cases h; rfl, fun h => by cases h; exact .nil⟩
  | xs, n :: ns, H => ⟨fun h => by
      cases h with
      | cons r t =>
        have r' : _ = V.int n := r
        rw [r', pairI.mp t]
        rfl, fun h => by
      rw [h]
      exact .cons rfl (pairI.mpr rfl)⟩
theorem pairB : ∀ {xs : List V} {ns : List Bool} {H : Hp}, Paired (fun x d => RB d x H) xs ns ↔ xs = ns.map V.bl
  | xs, [], H => ⟨fun h => by cases h; rfl, fun h => by cases h; exact .nil⟩
  | xs, n :: ns, H => ⟨fun h => by
      cases h with
      | cons r t =>
        have r' : _ = V.bl n := r
        rw [r', pairB.mp t]
        rfl, fun h => by
      rw [h]
      exact .cons rfl (pairB.mpr rfl)⟩
theorem tuI {ns : List Int} {v : V} {H : Hp} : Tu RI ns v H ↔ ∃ a, v = .ref a ∧ Rd H a (.tup (ns.map V.int)) :=
  ⟨fun ⟨a, xs, h1, h2, h3⟩ => ⟨a, h1, by rw [← pairI.mp h3]; exact h2⟩, fun ⟨a, h1, h2⟩ => ⟨a, _, h1, h2, pairI.mpr rfl⟩⟩
theorem liI {ns : List Int} {v : V} {H : Hp} : Li RI ns v H ↔ ∃ a, v = .ref a ∧ H a = some (.lst (ns.map V.int)) :=
  ⟨fun ⟨a, xs, h1, h2, h3⟩ => ⟨a, h1, by rw [h2, pairI.mp h3]⟩, fun ⟨a, h1, h2⟩ => ⟨a, _, h1, h2, pairI.mpr rfl⟩⟩
theorem liB {ns : List Bool} {v : V} {H : Hp} : Li RB ns v H ↔ ∃ a, v = .ref a ∧ H a = some (.lst (ns.map V.bl)) :=
  ⟨fun ⟨a, xs, h1, h2, h3⟩ => ⟨a, h1, by rw [h2, pairB.mp h3]⟩, fun ⟨a, h1, h2⟩ => ⟨a, _, h1, h2, pairB.mpr rfl⟩⟩
theorem pLen {α β : Type} {F : α → β → Prop} : ∀ {l : List α} {m : List β}, Paired F l m → l.length = m.length
  | _, _, .nil => rfl
  | _, _, .cons _ t => congrArg (· + 1) (pLen t)
theorem pAt {α β : Type} {F : α → β → Prop} : ∀ {l : List α} {m : List β} {i : Nat} {d : β}, Paired F l m → m[i]? = some d → ∃ x, l[i]? = some x ∧ F x d
  | _, _, 0, d, .cons r t, h => by
    have e : _ = d := Option.some.inj h
    rw [← e]
    exact ⟨_, rfl, r⟩
  | _, _, i + 1, d, .cons r t, h => by
    have h2 : _ := h
    rw [List.getElem?_cons_succ] at h2
    obtain ⟨x, h3, h4⟩ := pAt t h2
    exact ⟨x, by rw [List.getElem?_cons_succ]; exact h3, h4⟩
theorem pApp {α β : Type} {F : α → β → Prop} : ∀ {l l' : List α} {m m' : List β}, Paired F l m → Paired F l' m' → Paired F (l ++ l') (m ++ m')
  | _, _, _, _, .nil, h => h
  | _, _, _, _, .cons r t, h => .cons r (pApp t h)
theorem pTk {α β : Type} {F : α → β → Prop} : ∀ {l : List α} {m : List β} (n : Nat), Paired F l m → Paired F (l.take n) (m.take n)
  | _, _, 0, _ => .nil
  | _, _, _ + 1, .nil => .nil
  | _, _, n + 1, .cons r t => .cons r (pTk n t)
theorem pDp {α β : Type} {F : α → β → Prop} : ∀ {l : List α} {m : List β} (n : Nat), Paired F l m → Paired F (l.drop n) (m.drop n)
  | _, _, 0, h => h
  | _, _, _ + 1, .nil => .nil
  | _, _, n + 1, .cons _ t => pDp n t

/-! ### evaluations that only add objects -/
def ME (X : Cx) (e : Expr) (σ : L2.St) (H : Hp) (P : Pv) : Prop := ∀ H1, Ex H H1 → ∀ Q : VK, (∀ v H2, Ex H1 H2 → P v H2 → Q v H2) → WE X e σ H1 Q
def MT (X : Cx) (e : Expr) (σ : L2.St) (H : Hp) (b : Bool) : Prop := ∀ H1, Ex H H1 → ∀ Q : Bool → Hp → Prop, (∀ H2, Ex H1 H2 → Q b H2) → WT X e σ H1 Q
def MW (X : Cx) (e : Expr) (σ : L2.St) (H : Hp) (b : Bool) : Prop := ∀ H1, Ex H H1 → ∀ Q : Bool → Hp → Prop, (∀ H2, Ex H1 H2 → Q b H2) → WW X e σ H1 Q
/-- arguments, with their values' meaning -/
def MA (X : Cx) (es : List Expr) (σ : L2.St) (H : Hp) (Ps : List Pv) : Prop := ∀ H1, Ex H H1 → ∀ Q : List V → Hp → Prop, (∀ vs H2, Ex H1 H2 → Paired (fun v P => P v H2) vs Ps → Q vs H2) → WA X es σ H1 Q
/-- an operation on values -/
def MR (r : R2) (x y : V) (H : Hp) (P : Pv) : Prop := ∀ Q : VK, (∀ v H2, Ex H H2 → P v H2 → Q v H2) → r x y H Q
section
variable {X : Cx} {e a b c : Expr} {es : List Expr} {σ : L2.St} {H H' : Hp} {P P1 P2 : Pv} {v : V} {pos : Pos}
theorem ME.mono (h : ME X e σ H P) (x : Ex H H') : ME X e σ H' P := fun H1 x1 => h H1 (x.trans x1)
theorem ME.imp (h : ME X e σ H P) (k : ∀ v H', Ex H H' → P v H' → P2 v H') : ME X e σ H P2 := fun H1 x1 Q q => h H1 x1 Q fun v H2 x2 p => q v H2 x2 (k v H2 (x1.trans x2) p)
theorem MT.mono {k : Bool} (h : MT X e σ H k) (x : Ex H H') : MT X e σ H' k := fun H1 x1 => h H1 (x.trans x1)
theorem MT.is {k j : Bool} (h : MT X e σ H k) (x : k = j) : MT X e σ H j := x ▸ h
/-- use -/
theorem ME.we (h : ME X e σ H P) {Q : VK} (q : ∀ v H2, Ex H H2 → P v H2 → Q v H2) : WE X e σ H Q := h H (exr H) Q q
theorem ME.ex (h : ME X e σ H P) (x : Ex H H') {Q : VK} (q : ∀ v H2, Ex H' H2 → P v H2 → Q v H2) : WE X e σ H' Q := h H' x Q q
theorem MT.wt {k : Bool} (h : MT X e σ H k) {Q : Bool → Hp → Prop} (q : ∀ H2, Ex H H2 → Q k H2) : WT X e σ H Q := h H (exr H) Q q

theorem me_var (i : Nat) {x : Str} (hs : σ[i]? = some (some v) := by rfl) (hN : X.N[i]? = some x := by rfl) (hv : Vis X.env.scope x := by first | exact Or.inl rfl | exact Or.inr (Or.inl rfl) | exact Or.inr (Or.inr rfl)) (hd : (x == ("__debug__" : Str)) = false := by decide)
    (hcd : (x == ("__classdict__" : Str)) = false := by decide) : ME X (.Name x pos) σ H (Is v) := fun H1 _ Q q => .of (pe_var hN hv hd hcd) ⟨v, hs, q v H1 (exr H1) rfl⟩
/-- .. and what it stands for -/
theorem me_is (h : ME X e σ H (Is v)) (p : P v H) [m : Mo P] : ME X e σ H P := h.imp fun u H' x q => by
  have q' : u = v := q
  rw [q']
  exact m.mo x p
theorem me_int {i : Int} {j : Nat} : ME X (.Constant (.int i) j pos) σ H (Is (.int i)) := fun H1 _ Q q => .of pe_int (q _ H1 (exr H1) rfl)
theorem me_bl {i : Bool} {j : Nat} : ME X (.Constant (.bool i) j pos) σ H (Is (.bl i)) := fun H1 _ Q q => .of pe_bl (q _ H1 (exr H1) rfl)
theorem me_non {j : Nat} : ME X (.Constant .none j pos) σ H (Is .non) := fun H1 _ Q q => .of pe_non (q _ H1 (exr H1) rfl)
theorem me_glob {x : Str} {u : Value} (hm : X.mg x = some u) (r : RelV v u) (hg : Gl X x := by rfl) (hd : (x == ("__debug__" : Str)) = false := by decide) : ME X (.Name x pos) σ H (Is v) := fun H1 _ Q q => .of (pe_glob hg hm r hd) (q v H1 (exr H1) rfl)

theorem me_gi {x : Str} {i : Int} (c : ∃ t, X.mg x = some (.int i t)) (hg : Gl X x := by rfl) (hd : (x == ("__debug__" : Str)) = false := by decide) : ME X (.Name x pos) σ H (Is (.int i)) := by
  obtain ⟨t, c⟩ := c
  exact me_glob c (show ∃ t', Value.int i t = Value.int i t' from ⟨t, rfl⟩) hg hd
/-- two operands, one after the other -/
theorem two (ha : ME X a σ H P1) (hb : ME X b σ H P2) [m : Mo P1] {r : R2} {R : Pv} (hr : ∀ x y H1, Ex H H1 → P1 x H1 → P2 y H1 → MR r x y H1 R) {H1 : Hp} (x1 : Ex H H1) {Q : VK} (q : ∀ v H2, Ex H1 H2 → R v H2 → Q v H2) :
    tOp r (WE X a) (WE X b) σ H1 Q := ha H1 x1 _ fun x H2 x2 p => hb H2 (x1.trans x2) _ fun y H3 x3 p' =>
  hr x y H3 ((x1.trans x2).trans x3) (m.mo x3 p) p' Q fun v H4 x4 p4 => q v H4 ((x2.trans x3).trans x4) p4
theorem me_op {op : Operator} {r : R2} (ho : OpR X (binaryOp op) r) (ha : ME X a σ H P1) (hb : ME X b σ H P2) [Mo P1] (hr : ∀ x y H1, Ex H H1 → P1 x H1 → P2 y H1 → MR r x y H1 P) : ME X (.BinOp a op b pos) σ H P := fun H1 x1 Q q =>
  .of (pe_op ho pe_we pe_we) (two ha hb hr x1 q)
theorem mr_I {C : Int → Int → Prop} {g : Int → Int → V} {i j : Int} (hc : C i j) : MR (rI C g) (.int i) (.int j) H (Is (g i j)) := fun Q q => ⟨i, j, rfl, rfl, hc, q _ H (exr H) rfl⟩
theorem mr_I0 {g : Int → Int → V} {i j : Int} : MR (rI0 g) (.int i) (.int j) H (Is (g i j)) := fun Q q => ⟨i, j, rfl, rfl, q _ H (exr H) rfl⟩
/-- two known operands -/
theorem me_opV {op : Operator} {r : R2} {x y : V} (ho : OpR X (binaryOp op) r) (ha : ME X a σ H (Is x)) (hb : ME X b σ H (Is y)) (hr : ∀ H1, Ex H H1 → MR r x y H1 P) : ME X (.BinOp a op b pos) σ H P :=
  me_op ho ha hb fun x' y' H1 x1 p p' => by
    have e1 : x' = x := p
    have e2 : y' = y := p'
    rw [e1, e2]
    exact hr H1 x1
theorem me_I {op : Operator} {C : Int → Int → Prop} {g : Int → Int → V} {i j : Int} (ho : OpR X (binaryOp op) (rI C g)) (ha : ME X a σ H (Is (.int i))) (hb : ME X b σ H (Is (.int j))) (hc : C i j) : ME X (.BinOp a op b pos) σ H (Is (g i j)) :=
  me_opV ho ha hb fun _ _ => mr_I hc
theorem me_I0 {op : Operator} {g : Int → Int → V} {i j : Int} (ho : OpR X (binaryOp op) (rI0 g)) (ha : ME X a σ H (Is (.int i))) (hb : ME X b σ H (Is (.int j))) : ME X (.BinOp a op b pos) σ H (Is (g i j)) :=
  me_opV ho ha hb fun _ _ => mr_I0
theorem me_cmp {op : CmpOp} {r : R2} (ho : OpR X (compareOp op) r) (hm : behindInMarks op b = false) (ha : ME X a σ H P1) (hb : ME X b σ H P2) [Mo P1] (hr : ∀ x y H1, Ex H H1 → P1 x H1 → P2 y H1 → MR r x y H1 P) : ME X (.Compare a [op] [b] pos) σ H P :=
  fun H1 x1 Q q => .of (pe_cmpR ho pe_we pe_we hm) (two ha hb hr x1 q)
theorem mt_cmp {op : CmpOp} {r : R2} {k : Bool} (ho : OpR X (compareOp op) r) (hm : behindInMarks op b = false) (ha : ME X a σ H P1) (hb : ME X b σ H P2) [Mo P1] (hr : ∀ x y H1, Ex H H1 → P1 x H1 → P2 y H1 → MR r x y H1 (Is (.bl k))) : MT X (.Compare a [op] [b] pos) σ H k :=
  fun H1 x1 Q q => .of (pt_cmpR ho pe_we pe_we hm) (two ha hb hr x1 fun v H2 x2 p => ⟨k, p, q H2 x2⟩)
theorem me_cI {op : CmpOp} {g : Int → Int → V} {i j : Int} (ho : OpR X (compareOp op) (rI0 g)) (ha : ME X a σ H (Is (.int i))) (hb : ME X b σ H (Is (.int j))) (hm : behindInMarks op b = false := by exact nomark _) : ME X (.Compare a [op] [b] pos) σ H (Is (g i j)) :=
  me_cmp ho hm ha hb fun x y H1 x1 p p' => by
    have e1 : x = .int i := p
    have e2 : y = .int j := p'
    rw [e1, e2]
    exact mr_I0
theorem mt_cI {op : CmpOp} {g : Int → Int → Bool} {i j : Int} (ho : OpR X (compareOp op) (rI0 fun i j => .bl (g i j))) (ha : ME X a σ H (Is (.int i))) (hb : ME X b σ H (Is (.int j))) (hm : behindInMarks op b = false := by exact nomark _) : MT X (.Compare a [op] [b] pos) σ H (g i j) :=
  mt_cmp ho hm ha hb fun x y H1 x1 p p' => by
    have e1 : x = .int i := p
    have e2 : y = .int j := p'
    rw [e1, e2]
    exact mr_I0 (g := fun i j => .bl (g i j))
/-- scalars, == and != -/
theorem mr_eq {x y : V} (h : scal x y = true) : MR rEq x y H (Is (.bl (decide (x = y)))) := fun Q q => ⟨h, q _ H (exr H) rfl⟩
theorem mr_ne {x y : V} (h : scal x y = true) : MR rNe x y H (Is (.bl (!decide (x = y)))) := fun Q q => ⟨h, q _ H (exr H) rfl⟩
theorem me_eqS {x y : V} (ha : ME X a σ H (Is x)) (hb : ME X b σ H (Is y)) (h : scal x y = true := by rfl) (hm : behindInMarks .Eq b = false := by exact nomark _) : ME X (.Compare a [.Eq] [b] pos) σ H (Is (.bl (decide (x = y)))) :=
  me_cmp op_eq hm ha hb fun x' y' H1 x1 p p' => by
    have e1 : x' = x := p
    have e2 : y' = y := p'
    rw [e1, e2]
    exact mr_eq h
theorem mt_eqS {x y : V} (ha : ME X a σ H (Is x)) (hb : ME X b σ H (Is y)) (h : scal x y = true := by rfl) (hm : behindInMarks .Eq b = false := by exact nomark _) : MT X (.Compare a [.Eq] [b] pos) σ H (decide (x = y)) :=
  mt_cmp op_eq hm ha hb fun x' y' H1 x1 p p' => by
    have e1 : x' = x := p
    have e2 : y' = y := p'
    rw [e1, e2]
    exact mr_eq h
theorem mt_neS {x y : V} (ha : ME X a σ H (Is x)) (hb : ME X b σ H (Is y)) (h : scal x y = true := by rfl) (hm : behindInMarks .NotEq b = false := by exact nomark _) : MT X (.Compare a [.NotEq] [b] pos) σ H (!decide (x = y)) :=
  mt_cmp op_ne hm ha hb fun x' y' H1 x1 p p' => by
    have e1 : x' = x := p
    have e2 : y' = y := p'
    rw [e1, e2]
    exact mr_ne h
/-- is None, is not None -/
theorem mt_isN (ha : ME X a σ H (Is v)) {j : Nat} {p2 : Pos} : MT X (.Compare a [.Is] [.Constant .none j p2] pos) σ H (decide (v = .non)) := fun H1 x1 Q q =>
  .of (pt_cmp (pc_isN pe_we)) (ha H1 x1 _ fun u H2 x2 p => by
    have e : u = v := p
    rw [e]
    exact ⟨_, rfl, q H2 x2⟩)
theorem mt_notN (ha : ME X a σ H (Is v)) {j : Nat} {p2 : Pos} : MT X (.Compare a [.IsNot] [.Constant .none j p2] pos) σ H (!decide (v = .non)) := fun H1 x1 Q q =>
  .of (pt_cmp (pc_notN pe_we)) (ha H1 x1 _ fun u H2 x2 p => by
    have e : u = v := p
    rw [e]
    exact ⟨_, rfl, q H2 x2⟩)
theorem me_isN (ha : ME X a σ H (Is v)) {j : Nat} {p2 : Pos} : ME X (.Compare a [.Is] [.Constant .none j p2] pos) σ H (Is (.bl (decide (v = .non)))) := fun H1 x1 Q q =>
  .of (pe_cmp (pc_isN pe_we)) (ha H1 x1 _ fun u H2 x2 p => by
    have e : u = v := p
    rw [e]
    exact q _ H2 x2 rfl)
theorem me_un {op : UnaryOp} {g : Int → V} {i : Int} (ho : UnR X (unaryOp op) (rU g)) (ha : ME X a σ H (Is (.int i))) : ME X (.UnaryOp op a pos) σ H (Is (g i)) := fun H1 x1 Q q =>
  .of (pe_un ho pe_we) (ha H1 x1 _ fun u H2 x2 p => ⟨i, p, q _ H2 x2 rfl⟩)

/-! ### tests -/
/-- a call, a subscript, a name, whose value is a truth value -/
theorem mt_val {k : Bool} (ha : ME X e σ H (Is (.bl k))) (he : ∀ whole, isTrue e X.env whole = (do let v ← whole; standAt e.pos; holding [v] (truthy v)) := by intro _; rfl) : MT X e σ H k := fun H1 x1 Q q =>
  .of (pt_val pe_we he) (ha H1 x1 _ fun u H2 x2 p => ⟨k, p, q H2 x2⟩)
theorem MW.mt {k : Bool} (h : MW X e σ H k) : MT X e σ H k := fun H1 x1 Q q => fun pins s I => h H1 x1 Q q _ pins s I
theorem mw_and1 {k : Bool} (h : MT X a σ H k) : MW X (.BoolOp .And [a] pos) σ H k := fun H1 x1 Q q => .of (pw_and1 pt_wt) (h H1 x1 Q q)
theorem mw_or1 {k : Bool} (h : MT X a σ H k) : MW X (.BoolOp .Or [a] pos) σ H k := fun H1 x1 Q q => .of (pw_or1 pt_wt) (h H1 x1 Q q)
theorem mw_and {k j : Bool} (ha : MT X a σ H k) (hb : k = true → MW X (.BoolOp .And (b :: es) pos) σ H j) : MW X (.BoolOp .And (a :: b :: es) pos) σ H (k && j) := fun H1 x1 Q q =>
  .of (pw_and pt_wt pw_ww) (ha H1 x1 _ fun H2 x2 => by
    cases k with
    | true => exact iteT (hb rfl H2 (x1.trans x2) Q fun H3 x3 => q H3 (x2.trans x3))
    | false => exact iteF (q H2 x2))
theorem mw_or {k j : Bool} (ha : MT X a σ H k) (hb : k = false → MW X (.BoolOp .Or (b :: es) pos) σ H j) : MW X (.BoolOp .Or (a :: b :: es) pos) σ H (k || j) := fun H1 x1 Q q =>
  .of (pw_or pt_wt pw_ww) (ha H1 x1 _ fun H2 x2 => by
    cases k with
    | true => exact iteT (q H2 x2)
    | false => exact iteF (hb rfl H2 (x1.trans x2) Q fun H3 x3 => q H3 (x2.trans x3)))
theorem mt_not {k : Bool} (h : MT X a σ H k) : MT X (.UnaryOp .Not a pos) σ H (!k) := fun H1 x1 Q q => .of (pt_not pt_wt) (h H1 x1 _ fun H2 x2 => q H2 x2)
/-- .. as values -/
theorem me_not {k : Bool} (h : ME X a σ H (Is (.bl k))) : ME X (.UnaryOp .Not a pos) σ H (Is (.bl (!k))) := fun H1 x1 Q q => .of (pe_not pe_we) (h H1 x1 _ fun u H2 x2 p => ⟨k, p, q _ H2 x2 rfl⟩)
theorem me_one {op} (h : ME X a σ H P) : ME X (.BoolOp op [a] pos) σ H P := fun H1 x1 Q q => .of (pe_one pe_we) (h H1 x1 Q q)
theorem me_and {k j : Bool} (ha : ME X a σ H (Is (.bl k))) (hb : k = true → ME X (.BoolOp .And (b :: es) pos) σ H (Is (.bl j))) : ME X (.BoolOp .And (a :: b :: es) pos) σ H (Is (.bl (k && j))) := fun H1 x1 Q q =>
  .of (pe_and pe_we pe_we) (ha H1 x1 _ fun u H2 x2 p => ⟨k, p, by
    cases k with
    | true => exact iteT (hb rfl H2 (x1.trans x2) Q fun v H3 x3 p3 => q v H3 (x2.trans x3) p3)
    | false => exact iteF (q _ H2 x2 rfl)⟩)
theorem me_or {k j : Bool} (ha : ME X a σ H (Is (.bl k))) (hb : k = false → ME X (.BoolOp .Or (b :: es) pos) σ H (Is (.bl j))) : ME X (.BoolOp .Or (a :: b :: es) pos) σ H (Is (.bl (k || j))) := fun H1 x1 Q q =>
  .of (pe_or pe_we pe_we) (ha H1 x1 _ fun u H2 x2 p => ⟨k, p, by
    cases k with
    | true => exact iteT (q _ H2 x2 rfl)
    | false => exact iteF (hb rfl H2 (x1.trans x2) Q fun v H3 x3 p3 => q v H3 (x2.trans x3) p3)⟩)
theorem me_if {k : Bool} (hc : MT X c σ H k) (ha : k = true → ME X a σ H P) (hb : k = false → ME X b σ H P) : ME X (.IfExp c a b pos) σ H P := fun H1 x1 Q q =>
  .of (pe_ifExp pt_wt pe_we pe_we) (hc H1 x1 _ fun H2 x2 => by
    cases k with
    | true => exact iteT (ha rfl H2 (x1.trans x2) Q fun v H3 x3 p3 => q v H3 (x2.trans x3) p3)
    | false => exact iteF (hb rfl H2 (x1.trans x2) Q fun v H3 x3 p3 => q v H3 (x2.trans x3) p3))
/-- a <= b <= c -/
theorem me_chainI {op op' : CmpOp} {g g' : Int → Int → Bool} {i j k : Int} (ho : OpR X (compareOp op) (rI0 fun i j => .bl (g i j))) (ho' : OpR X (compareOp op') (rI0 fun i j => .bl (g' i j)))
    (ha : ME X a σ H (Is (.int i))) (hb : ME X b σ H (Is (.int j))) (hc : ME X c σ H (Is (.int k))) (hm : lastMarks [op, op'] [b, c] = false := by with_unfolding_all rfl) : ME X (.Compare a [op, op'] [b, c] pos) σ H (Is (.bl (g i j && g' j k))) := fun H1 x1 Q q =>
  .of (pe_chain ho ho' pe_we pe_we pe_we hm) (ha H1 x1 _ fun u H2 x2 p => hb H2 (x1.trans x2) _ fun w H3 x3 p' => by
    have e1 : u = .int i := p
    have e2 : w = .int j := p'
    rw [e1, e2]
    refine ⟨i, j, rfl, rfl, g i j, rfl, ?_⟩
    cases hg : g i j with
    | true =>
      refine iteT (hc H3 ((x1.trans x2).trans x3) _ fun z H4 x4 p4 => ?_)
      have e3 : z = .int k := p4
      rw [e3]
      exact ⟨j, k, rfl, rfl, q _ H4 ((x2.trans x3).trans x4) (by rw [hg]; rfl)⟩
    | false => exact iteF (q _ H3 (x2.trans x3) (by rw [hg]; rfl)))
theorem mt_chainI {op op' : CmpOp} {g g' : Int → Int → Bool} {i j k : Int} (ho : OpR X (compareOp op) (rI0 fun i j => .bl (g i j))) (ho' : OpR X (compareOp op') (rI0 fun i j => .bl (g' i j)))
    (ha : ME X a σ H (Is (.int i))) (hb : ME X b σ H (Is (.int j))) (hc : ME X c σ H (Is (.int k))) (hm : lastMarks [op, op'] [b, c] = false := by with_unfolding_all rfl) : MT X (.Compare a [op, op'] [b, c] pos) σ H (g i j && g' j k) := fun H1 x1 Q q =>
  .of (pt_chain ho ho' pe_we pe_we pe_we hm) (ha H1 x1 _ fun u H2 x2 p => hb H2 (x1.trans x2) _ fun w H3 x3 p' => by
    have e1 : u = .int i := p
    have e2 : w = .int j := p'
    rw [e1, e2]
    refine ⟨i, j, rfl, rfl, g i j, rfl, ?_⟩
    cases hg : g i j with
    | true =>
      refine iteT (hc H3 ((x1.trans x2).trans x3) _ fun z H4 x4 p4 => ?_)
      have e3 : z = .int k := p4
      rw [e3]
      exact ⟨j, k, rfl, rfl, g' j k, rfl, (by rw [hg] at q; exact q H4 ((x2.trans x3).trans x4))⟩
    | false => exact iteF ⟨false, rfl, (by rw [hg] at q; exact q H3 (x2.trans x3))⟩)

/-! ### arguments, calls -/
theorem ma_nil : MA X [] σ H [] := fun H1 _ Q q => .of pa_nil (q [] H1 (exr H1) .nil)
theorem ma_cons {Ps : List Pv} (h : ME X e σ H P) (hr : MA X es σ H Ps) [m : Mo P] (hs : starEach (e :: es) X.env = (false, eval e X.env) :: starEach es X.env := by rfl) : MA X (e :: es) σ H (P :: Ps) := fun H1 x1 Q q =>
  .of (pa_cons pe_we pa_wa hs) (h H1 x1 _ fun v H2 x2 p => hr H2 (x1.trans x2) _ fun vs H3 x3 ps => q (v :: vs) H3 (x2.trans x3) (.cons (m.mo x3 p) ps))
/-- a call of a built-in on values -/
def MC (r : List V → Hp → VK → Prop) (vs : List V) (H : Hp) (P : Pv) : Prop := ∀ Q : VK, (∀ v H2, Ex H H2 → P v H2 → Q v H2) → r vs H Q
theorem me_cB {id : String} {r : List V → Hp → VK → Prop} {x : Str} {p : Pos} {Ps : List Pv} (hc : CallR X (.builtin id) r) (hm : X.mg x = none) (hv : bootBuiltins x = some (.builtin id)) (ha : MA X (e :: es) σ H Ps)
    (hr : ∀ vs H1, Ex H H1 → Paired (fun v P => P v H1) vs Ps → MC r vs H1 P) (hg : Gl X x := by rfl) (hn : x ≠ "__name__" := by decide) (hdb : (x == ("__debug__" : Str)) = false := by decide)
    (he : starEach (e :: es) X.env = (false, eval e X.env) :: starEach es X.env := by rfl) (hpl : (backTo pos (starEach es X.env)).any (·.1) = false := by rfl) : ME X (.Call (.Name x p) (e :: es) [] pos) σ H P := fun H1 x1 Q q =>
  .of (pe_callB hc hg hm hv pa_wa hn hdb he hpl) (ha H1 x1 _ fun vs H2 x2 ps => hr vs H2 (x1.trans x2) ps Q fun v H3 x3 p3 => q v H3 (x2.trans x3) p3)
theorem me_cT {T : String} {r : List V → Hp → VK → Prop} {x : Str} {p : Pos} {Ps : List Pv} (hc : CallR X (.type T) r) (hm : X.mg x = none) (hv : bootBuiltins x = some (.type T)) (ha : MA X (e :: es) σ H Ps)
    (hr : ∀ vs H1, Ex H H1 → Paired (fun v P => P v H1) vs Ps → MC r vs H1 P) (hg : Gl X x := by rfl) (hn : x ≠ "__name__" := by decide) (hdb : (x == ("__debug__" : Str)) = false := by decide)
    (he : starEach (e :: es) X.env = (false, eval e X.env) :: starEach es X.env := by rfl) (hpl : (backTo pos (starEach es X.env)).any (·.1) = false := by rfl) : ME X (.Call (.Name x p) (e :: es) [] pos) σ H P := fun H1 x1 Q q =>
  .of (pe_callTy hc hg hm hv pa_wa hn hdb he hpl) (ha H1 x1 _ fun vs H2 x2 ps => hr vs H2 (x1.trans x2) ps Q fun v H3 x3 p3 => q v H3 (x2.trans x3) p3)
theorem p1 {vs : List V} {P : Pv} {H : Hp} (h : Paired (fun v P => P v H) vs [P]) : ∃ x, vs = [x] ∧ P x H := by
  cases h with
  | cons r t =>
    cases t
    exact ⟨_, rfl, r⟩
theorem p2 {vs : List V} {P P2 : Pv} {H : Hp} (h : Paired (fun v P => P v H) vs [P, P2]) : ∃ x y, vs = [x, y] ∧ P x H ∧ P2 y H := by
  cases h with
  | cons r t =>
    cases t with
    | cons r' t' =>
      cases t'
      exact ⟨_, _, rfl, r, r'⟩
/-- a def that stands, by its name -/
structure Has (P : Program) (w : World) (K : PySem.W.Frag) (mg : Str → Option Value) (base : Heap) (CX : CXT) (x : Str) (k : Nat) (ps : List Str) (sp : Sp) : Prop where
  ex : ∃ (f : Addr) (fd : FuncData), FnOk P w K mg base CX k f fd ps sp ∧ mg x = some (.ref f) ∧ PySem.W.keepIn K (.ref f) = true ∧ Binds K fd ps []
theorem we_call {CX : CXT} {k : Nat} {ps : List Str} {sp : Sp} {x : Str} {p : Pos} {E : XK} {Q : VK} (F : Has X.prog X.w X.K X.mg X.base CX x k ps sp) (hr : Room k X.A) (hx : Passes CX X E) (ha : WA X (e :: es) σ H fun vs H1 => sp vs H1 Q E) (hg : Gl X x := by rfl)
    (hdb : (x == ("__debug__" : Str)) = false := by decide) (he : starEach (e :: es) X.env = (false, eval e X.env) :: starEach es X.env := by rfl) (hpl : (backTo pos (starEach es X.env)).any (·.1) = false := by rfl) : WE X (.Call (.Name x p) (e :: es) [] pos) σ H Q := by
  obtain ⟨f, fd, h1, h2, h3, h4⟩ := F.ex
  refine .of (pe_call h1 hr hg h2 h3 h4 .nil hx pa_wa hdb he hpl) (ha.mono fun vs H1 q => ?_)
  rw [List.append_nil]
  exact q
/-- a promise of one that only adds objects: from the arguments' meaning to the answer's -/
def SpP (n : Nat) (pre : List V → Hp → Prop) (post : List V → Pv) : Sp := fun vs H Q _ => vs.length = n ∧ pre vs H ∧ ∀ v H', Ex H H' → post vs v H' → Q v H'
theorem me_call {k n : Nat} {ps : List Str} {pre : List V → Hp → Prop} {post : List V → Pv} {x : Str} {p : Pos} {Ps : List Pv} (F : Has X.prog X.w X.K X.mg X.base CX0 x k ps (SpP n pre post)) (hr : Room k X.A) (ha : MA X (e :: es) σ H Ps)
    (hp : ∀ vs H1, Ex H H1 → Paired (fun v P => P v H1) vs Ps → vs.length = n ∧ pre vs H1 ∧ ∀ v H2, Ex H1 H2 → post vs v H2 → P v H2) (hg : Gl X x := by rfl)
    (hdb : (x == ("__debug__" : Str)) = false := by decide) (he : starEach (e :: es) X.env = (false, eval e X.env) :: starEach es X.env := by rfl) (hpl : (backTo pos (starEach es X.env)).any (·.1) = false := by rfl) : ME X (.Call (.Name x p) (e :: es) [] pos) σ H P := fun H1 x1 Q q =>
  we_call F hr pass0 (ha H1 x1 _ fun vs H2 x2 p2 => by
    obtain ⟨h1, h2, h3⟩ := hp vs H2 (x1.trans x2) p2
    exact ⟨h1, h2, fun v H3 x3 p3 => q v H3 (x2.trans x3) (h3 v H3 x3 p3)⟩) hg hdb he hpl
end
end Wk
set_option Elab.async false
set_option linter.all false
set_option maxRecDepth 100000
set_option maxHeartbeats 4000000
/-! Rules by values that are wanted beside the modules': sorted of a tuple, of rows; extend by a tuple; index of a tuple whose object is known; len(set(..)) of a tuple. -/
namespace Wk
open PySem PySem.Spec PyProof.Rows L2

/-! ### collecting a tuple -/
section
variable {prog : Program} {w : World} {A : Around} {E : Value → Shared → Prop} {s : Shared}
theorem collectTup {l : Addr} {vs : List Value} {Q : List Value → Shared → Prop} (hl : IsTup s.heap l vs.toArray)
    (h : Q vs { s with heap := (s.heap.push (seqObj "list" #[] 0)).update s.heap.objs.size (Obj.mapSeq (· ++ vs.toArray)) }) (hsz : vs.length ≤ sizeLine) :
    wpAny (model prog w) A (collect (.ref l)) Q E s := by
  obtain ⟨o, ho, hc, n, hd⟩ := id hl
  have ho2 : (s.heap.push (seqObj "list" #[] 0)).get? l = some o := Heap.get?_push_of_some _ ho
  have new := Heap.get?_push_size s.heap (o := seqObj "list" #[] 0) rfl
  have tt : (Value.type "tuple" == Value.type "tuple") = true := by rfl
  unfold collect
  refine wpAny_bind (wpAny_runValue (codeAny_builtin entry_proto_collect' ?_))
  show wpAny _ _ (newList [] >>= fun z => again (.builtin "list.__iadd__" ⟨[z, .ref l], []⟩)) _ _ s
  refine wpAny_bind (wpAny_newList (wpAny_pure ⟨Code.quiet_builtin _ (by decide +kernel), codeAny_builtin entry_list_iadd' ?_⟩))
  show wpAny _ _ (Builtin.List.listExtendWith (.ref s.heap.objs.size) (.ref l) (.ref s.heap.objs.size)) _ _ { s with heap := s.heap.push (seqObj "list" #[] 0) }
  unfold Builtin.List.listExtendWith
  refine wpAny_bind (wpAny_typeOf (T := "tuple") ⟨o, ho2, hc⟩ ?_)
  rw [if_pos (show (Builtin.List.listSameRef (.ref s.heap.objs.size) (.ref l) || Value.type "tuple" == Value.type "list" || Value.type "tuple" == Value.type "tuple") = true by rw [tt, Bool.or_true])]
  refine wpAny_bind (listItems_at ho2 hd (wpAny_bind (listItems_at (xs := #[]) (n := 0) new rfl ?_)))
  rw [if_neg (by simp)]
  have fits : ((#[] : Array Value) ++ vs.toArray).size ≤ sizeLine + 1 := by
    simp only [Array.size_append, List.size_toArray, List.length_nil]
    omega
  refine wpAny_bind (listUpdate_at (xs := #[]) (n := 0) new rfl (wpAny_pure ?_) (Nat.zero_le _) fits)
  show wpAny (model prog w) A (load s.heap.objs.size >>= fun o => match o.data with
    | .seq xs _ => pure xs.toList
    | _ => unsupported "internal:collect") Q E _
  refine wpAny_bind (wpAny_load (get?_update_seq new _) ?_)
  have e : ((#[] : Array Value) ++ vs.toArray).toList = vs := by simp
  show wpAny _ _ (pure ((#[] : Array Value) ++ vs.toArray).toList) Q E _
  rw [e]
  exact wpAny_pure h
end

/-! ### sorted of a tuple of ints -/
section
variable {prog : Program} {w : World} {A : Around} {E : Value → Shared → Prop} {s : Shared}
theorem sortedTup {l : Addr} {vs : List Value} {ltv : Value → Value → Bool} {Q : Value → Shared → Prop} (O : SrtO.Swo ltv) (hl : IsTup s.heap l vs.toArray) (hz : vs.length ≤ sizeLine)
    (hS : ∀ (h1 : Heap) (a : Addr), 2 ≤ vs.length → SrtO.SortableO prog w A.in1.in1 { s with heap := h1 } a vs ltv)
    (h : ∀ out : List Value, SrtO.Srtd ltv out → SrtO.Stb ltv out vs → Q (.ref (s.heap.objs.size + 1)) { s with heap := sortedAll s.heap vs out.toArray }) :
    wpAny (model prog w) A (call (.builtin "sorted") [.ref l]) Q E s := by
  have two : ((s.heap.push (seqObj "list" #[] 0)).update s.heap.objs.size (Obj.mapSeq (· ++ vs.toArray))).objs.size = s.heap.objs.size + 1 := by
    rw [Heap.size_update, size_push']
  refine Calls.call_function_entry kind_sorted plain_sorted entry_sorted (args_sorted1 _) ?_
  unfold Builtin.«sorted»
  refine wpAny_bind (m := checkCount "sorted" 1 1 _) (wpAny_pure (wpAny_bind (collectTup hl ?_ hz)))
  refine wpAny_bind (wpAny_newList ?_ hz)
  show wpAny _ _ _ _ _ { s with heap := ((s.heap.push (seqObj "list" #[] 0)).update s.heap.objs.size (Obj.mapSeq (· ++ vs.toArray))).push (seqObj "list" vs.toArray 0) }
  have at1 : (((s.heap.push (seqObj "list" #[] 0)).update s.heap.objs.size (Obj.mapSeq (· ++ vs.toArray))).push (seqObj "list" vs.toArray 0)).get? (s.heap.objs.size + 1) = some (seqObj "list" vs.toArray 0) :=
    two ▸ Heap.get?_push_size _ rfl
  rw [two]
  refine wpAny_bind (wpAny_holding (wpAny_call_entry slot_list_sort ⟨_, at1, rfl⟩ entry_list_sort (SrtO.list_sort_ord O at1 hz (fun h2 => hS _ _ h2) fun out a b => ⟨_, rfl, ?_⟩) (args_list_sort _)))
  exact wpAny_pure ⟨_, rfl, h out a b⟩
end
section
variable {X : Cx}
def rSortedT (K : PySem.W.Frag) : List V → Hp → VK → Prop := fun vs H Q => ∃ (a : Addr) (ns : List Int), vs = [V.ref a] ∧ SqT K H a (ns.map V.int) ∧
  ∀ (ns' : List Int) (p : Addr), ns'.Perm ns → ns'.Pairwise (· ≤ ·) → H p = none → Q (.ref p) (upd H p (.lst (ns'.map V.int)))
theorem crSortedT : CallR X (.builtin "sorted") (rSortedT X.K) := by
  intro pins s σ H vs us Q I r h
  obtain ⟨a, ns, rfl, hs, q⟩ := h
  obtain ⟨its, rv, hl, hz⟩ := I.tuple hs
  rw [Vals.ref1 r]
  have hi := rv.ints
  refine sortedTup SrtO.swo_int hl (rv.length ▸ hz) (fun _ _ h2 => SrtO.ints_sortable hi h2) fun out o1 o2 => ?_
  obtain ⟨k1, k2, k3⟩ := SrtO.ints_out hi o1 o2
  obtain ⟨ep, he⟩ := sortedAll_at s.heap its out.toArray
  have fits : ((out.map SrtO.iv).map V.int).length ≤ sizeLine := by
    rw [List.length_map, k2.length_eq, ← List.length_map (f := V.int)]
    exact hz
  have J := I.laid (t' := s.toks) (o := .lst ((out.map SrtO.iv).map V.int)) (fun b u e => sortedAll_old e) (Nat.le_succ _) ⟨fits, out, ep, vals_of_ints k1, he⟩
  exact ⟨.ref _, _, J, rfl, q _ _ k2 k3 (I.hok.fresh (Nat.le_succ _))⟩

/-! ### sorted of a list of rows (tuples of ints, one at least) -/
def rowD (b : Addr × List Int) : PyData := .tuple (b.2.map .int)
theorem rowD_lay : ∀ ns : List Int, PyData.canLayAll0 (ns.map .int) = true
  | [] => by simp [PyData.canLayAll0]
  | n :: ns => by simp [PyData.canLayAll0, PyData.canLay0, rowD_lay ns]
theorem rowD_dep : ∀ ns : List Int, PyData.depthAll (ns.map .int) = 0
  | [] => by simp [PyData.depthAll]
  | n :: ns => by simp [PyData.depthAll, PyData.depth, rowD_dep ns]
theorem rowD_depth (b : Addr × List Int) : (rowD b).depth = 1 := by simp [rowD, PyData.depth, rowD_dep]
theorem rowD_alike : ∀ ns ms : List Int, PySem.W.alikeAll (ns.map .int) (ms.map .int) = true
  | [], _ => by cases ‹List Int› <;> simp [PySem.W.alikeAll]
  | n :: ns, [] => by simp [PySem.W.alikeAll]
  | n :: ns, m :: ms => by simp [PySem.W.alikeAll, PySem.W.alike, rowD_alike ns ms]
def rSortedRows : List V → Hp → VK → Prop := fun vs H Q => ∃ (a : Addr) (rs : List (Addr × List Int)), vs = [V.ref a] ∧ H a = some (.lst (rs.map fun r => V.ref r.1)) ∧ (∀ r ∈ rs, H r.1 = some (.tup (r.2.map V.int)) ∧ r.2 ≠ []) ∧
  ∀ (rs' : List (Addr × List Int)) (p : Addr), rs'.Perm rs → H p = none → Q (.ref p) (upd H p (.lst (rs'.map fun r => V.ref r.1)))
theorem eachRefs : ∀ {us : List Value} {rs : List (Addr × List Int)}, Vals (rs.map fun r => V.ref r.1) us → PySem.W.EachIs (fun v (r : Addr × List Int) => v = Value.ref r.1) us rs
  | _, [], h => by
    cases h
    exact .nil
  | _, r :: rs, h => by
    cases h with
    | cons a b => exact .cons a (eachRefs b)
theorem refsEach : ∀ {us : List Value} {rs : List (Addr × List Int)}, PySem.W.EachIs (fun v (r : Addr × List Int) => v = Value.ref r.1) us rs → Vals (rs.map fun r => V.ref r.1) us
  | _, _, .nil => .nil
  | _, _, .cons a b => .cons a (refsEach b)
theorem eachMem {α β : Type} {R S : α → β → Prop} : ∀ {as : List α} {bs : List β}, PySem.W.EachIs R as bs → (∀ a b, b ∈ bs → R a b → S a b) → PySem.W.EachIs S as bs
  | _, _, .nil, _ => .nil
  | _, _, .cons a b, f => .cons (f _ _ List.mem_cons_self a) (eachMem b fun x y m => f x y (List.mem_cons_of_mem _ m))
theorem crSortedRows (hu : X.A.units + 66 < cLine) : CallR X (.builtin "sorted") rSortedRows := by
  intro pins s σ H vs us Q I r h
  obtain ⟨a, rs, rfl, hs, hr, q⟩ := h
  obtain ⟨its, rv, hl, hz⟩ := I.list (SqL.of hs)
  rw [Vals.ref1 r]
  have E1 := eachRefs rv
  have len : its.length = rs.length := by rw [← rv.length, List.length_map]
  have zz : rs.length ≤ sizeLine := by rw [← List.length_map (f := fun r : Addr × List Int => V.ref r.1)]; exact hz
  have E2 : PySem.W.EachIs (fun v b => ∃ as, Reads s.heap v (rowD b) as) its rs := eachMem E1 fun v b hb e => by
    obtain ⟨h1, h2⟩ := hr b hb
    have d : Dp X.K H (V.ref b.1) (rowD b) := .tup (SqT.of h1) (by
      have all : ∀ ns : List Int, DpAll X.K H (ns.map V.int) (ns.map PyData.int) := fun ns => by
        induction ns with
        | nil => exact .nil
        | cons n ns ih => exact .cons (.int n) ih
      exact all b.2)
    exact Dp.reads I (rowD b) _ v d e
  have al : PySem.W.AllAlike (rs.map rowD) := fun d hd d' hd' => by
    obtain ⟨b, _, rfl⟩ := List.mem_map.mp hd
    obtain ⟨b', _, rfl⟩ := List.mem_map.mp hd'
    show PySem.W.alike (rowD b) (rowD b') = true
    unfold rowD
    simp only [PySem.W.alike]
    exact rowD_alike _ _
  have so : PySem.W.Sortable (rs.map rowD) := .inl fun d hd => by
    obtain ⟨b, hb, rfl⟩ := List.mem_map.mp hd
    obtain ⟨_, ne⟩ := hr b hb
    obtain ⟨c, ns⟩ := b
    cases ns with
    | nil => exact absurd rfl ne
    | cons n ns => exact ⟨.int n, ns.map .int, rfl⟩
  refine PySem.W.sorted_data (bs := rs) (enc := rowD) (R := fun v (r : Addr × List Int) => v = Value.ref r.1) hl.isList E1 E2 al so zz (fun b _ => by rw [rowD_depth]; omega) fun out ol oe => ?_
  obtain ⟨ep, he⟩ := sortedAll_at s.heap its out.toArray
  have pm : (rs.mergeSort (PySem.W.dataLe false rowD)).Perm rs := List.mergeSort_perm _ _
  have fits : ((rs.mergeSort (PySem.W.dataLe false rowD)).map fun r => V.ref r.1).length ≤ sizeLine := by
    rw [List.length_map, pm.length_eq]
    exact zz
  have J := I.laid (t' := s.toks) (o := .lst ((rs.mergeSort (PySem.W.dataLe false rowD)).map fun r => V.ref r.1)) (fun b u e => sortedAll_old e) (Nat.le_succ _) ⟨fits, out, ep, refsEach oe, he⟩
  exact ⟨.ref _, _, J, rfl, q _ _ pm (I.hok.fresh (Nat.le_succ _))⟩

/-! ### xs.extend(t), t a tuple -/
def rExtendT (K : PySem.W.Frag) : V → List V → Hp → VK → Prop := fun x vs H Q => ∃ (l b : Addr) (xs zs : List V), x = .ref l ∧ vs = [.ref b] ∧ H l = some (.lst xs) ∧ SqT K H b zs ∧ xs.length + zs.length ≤ sizeLine ∧ Q .non (upd H l (.lst (xs ++ zs)))
theorem mt_extendT : MtM X "list.extend" (rExtendT X.K) := by
  intro pins s σ H x vs v us Q I rx rv h
  obtain ⟨l, b, xs, zs, rfl, rfl, hH, hB, hz, q⟩ := h
  cases rx
  obtain ⟨u, rfl, ru⟩ := rv.one
  cases ru
  obtain ⟨z, its, n, r, hl, e⟩ := I.lstM hH
  obtain ⟨its2, r2, ⟨⟨c2, d2, t2, s2⟩, e2, hc2, n2, hd2⟩, hz2⟩ := I.tuple hB
  simp only at hc2 hd2
  subst hc2 hd2
  have hl2 := r2.length
  have fits : its.toArray.size + its2.toArray.size ≤ sizeLine := by
    rw [List.size_toArray, List.size_toArray]
    omega
  have short : ¬ (!its.toArray.isEmpty && Builtin.List.listTooLong (its.toArray.size + its2.toArray.size)) = true := by
    rw [notLongL fits, Bool.and_false]
    exact Bool.false_ne_true
  refine wpAny_call_entry PySem.F.slot_list_extend ⟨_, e, rfl⟩ PySem.F.entry_list_extend ?_ (PySem.F.args_list_extend_2 _ _)
  unfold Builtin.«list.extend»
  refine wpAny_bind (m := selfAndOne "list.extend" _) (wpAny_pure ?_)
  show wpAny _ _ (Builtin.List.listExtendWith (.ref l) (.ref b) .none) _ _ _
  have tt : (Value.type "tuple" == Value.type "tuple") = true := by rfl
  unfold Builtin.List.listExtendWith
  refine wpAny_bind (wpAny_typeOf (T := "tuple") ⟨_, e2, rfl⟩ ?_)
  rw [if_pos (show (Builtin.List.listSameRef (.ref l) (.ref b) || Value.type "tuple" == Value.type "list" || Value.type "tuple" == Value.type "tuple") = true by rw [tt, Bool.or_true])]
  refine wpAny_bind (listItems_at e2 rfl (wpAny_bind (listItems_at e rfl ?_)))
  rw [if_neg short]
  refine wpAny_bind (listUpdate_at e rfl (wpAny_pure ⟨_, rfl, ?_⟩) (by rw [List.size_toArray]; omega) (by rw [Array.size_append]; omega))
  exact ⟨.non, _, I.lset (t' := s.toks) (its' := its ++ its2) hH e (by simp) (r.append r2) (by rw [List.length_append]; omega), rfl, q⟩
end
end Wk
set_option Elab.async false
set_option linter.all false
set_option maxRecDepth 100000
set_option maxHeartbeats 4000000
/-! Loops and comprehensions over what only grows, and over what is changed at known places. -/
namespace Wk
open PySem PySem.Spec PyProof.Rows L2

/-- all but what stands at D is kept -/
def ExB (D : Addr → Prop) (H H' : Hp) : Prop := ∀ b o, ¬ D b → H b = some o → H' b = some o
section
variable {D : Addr → Prop} {H H1 H2 : Hp}
theorem ExB.of (x : Ex H H1) : ExB D H H1 := fun b o _ e => x b o e
theorem ExB.trans (x : ExB D H H1) (y : ExB D H1 H2) : ExB D H H2 := fun b o n e => y b o n (x b o n e)
theorem ExB.ex (x : ExB D H H1) (h : ∀ b, D b → H b = none) : Ex H H1 := fun b o e => x b o (fun d => by rw [h b d] at e; cases e) e
theorem ExB.up {p : Addr} {o : HO} (h : D p) : ExB D H (upd H p o) := fun b u n e => by
  rw [upd_ne (show b ≠ p from fun q => n (q ▸ h))]
  exact e
theorem ExB.off {H0 : Hp} (b : Ex H0 H) (x : ExB D H H1) (h : ∀ b, D b → H0 b = none) : Ex H0 H1 := fun c o e => x c o (fun d => by rw [h c d] at e; cases e) (b c o e)
end
theorem exNew {H : Hp} {p : Addr} {o : HO} (h : H p = none) : Ex H (upd H p o) := Evl.Ex.new h

/-! ### targets -/
def WG (X : Cx) (tg : Expr) : TG := fun v σ H Q => ∀ (pins : List (Addr × Obj)) (s : Shared) (u : Value), Inv X pins σ H s → RelV v u → wpAny (model X.prog X.w) X.A (assign tg X.env u) (fun _ s' => ∃ σ' H', Inv X pins σ' H' s' ∧ Q σ' H') X.xe s
def WGs (X : Cx) (ts : List Expr) : TGs := fun vs σ H Q => ∀ (pins : List (Addr × Obj)) (s : Shared) (us : List Value), Inv X pins σ H s → Vals vs us → wpAny (model X.prog X.w) X.A (assignInOrder ((assignEach ts X.env).map (·.2)) us) (fun _ s' => ∃ σ' H', Inv X pins σ' H' s' ∧ Q σ' H') X.xe s
def WI (X : Cx) (tg iter : Expr) : TI := fun σ H R => ∀ (pins : List (Addr × Obj)) (s : Shared), Inv X pins σ H s → wpAny (model X.prog X.w) X.A (eval iter X.env) (fun v s1 => wpAny (model X.prog X.w) X.A (pyIter v) (PIE X pins σ tg R) X.xe s1) X.xe s
section
variable {X : Cx} {tg iter e : Expr} {ts : List Expr} {σ : L2.St} {H : Hp} {pos pos' : Pos}
theorem pg_wg : PG X tg (WG X tg) := ⟨fun pins s _ _ _ u _ I r h => h pins s u I r⟩
theorem pgs_wgs : PGs X ts (WGs X ts) := ⟨fun pins s _ _ _ us _ I r h => h pins s us I r⟩
theorem pi_wi : PI X tg iter (WI X tg iter) := ⟨fun pins s _ _ _ I h => h pins s I⟩
theorem WG.of {t : TG} {v : V} {Q : L2.St → Hp → Prop} (h : PG X tg t) (q : t v σ H Q) : WG X tg v σ H Q := fun pins s u I r => h.run pins s σ H v u Q I r q
theorem WGs.of {t : TGs} {vs : List V} {Q : L2.St → Hp → Prop} (h : PGs X ts t) (q : t vs σ H Q) : WGs X ts vs σ H Q := fun pins s us I r => h.run pins s σ H vs us Q I r q
theorem WI.of {t : TI} {R : It → Hp → Prop} (h : PI X tg iter t) (q : t σ H R) : WI X tg iter σ H R := fun pins s I => h.run pins s σ H R I q
/-- v given to the target turns σ into τ -/
def MG (X : Cx) (tg : Expr) (v : V) (σ : L2.St) (H : Hp) (τ : L2.St) : Prop := ∀ Q : L2.St → Hp → Prop, Q τ H → WG X tg v σ H Q
def MGs (X : Cx) (ts : List Expr) (vs : List V) (σ : L2.St) (H : Hp) (τ : L2.St) : Prop := ∀ Q : L2.St → Hp → Prop, Q τ H → WGs X ts vs σ H Q
theorem mg_name (i : Nat) {x : Str} {v : V} (hN : X.N.Nodup) (hi : X.N[i]? = some x := by rfl) (hx : Loc X.env.scope x := by first | exact Or.inl rfl | exact Or.inr rfl) (hf : X.fn x = true ∨ X.env.scope.names.lookup x = some .local := by first | exact .inl rfl | exact .inr rfl) :
    MG X (.Name x pos) v σ H (σ.set i (some v)) := fun Q q => .of (pg_name hN hi hx hf) q
theorem mgs_nil : MGs X [] [] σ H σ := fun Q q => .of pgs_nil ⟨rfl, q⟩
theorem mgs_cons {v : V} {vs : List V} {σ1 σ2 : L2.St} (h : MG X e v σ H σ1) (hr : MGs X ts vs σ1 H σ2) (hs : (assignEach (e :: ts) X.env).map (·.2) = assign e X.env :: (assignEach ts X.env).map (·.2) := by rfl) : MGs X (e :: ts) (v :: vs) σ H σ2 := fun Q q =>
  .of (pgs_cons pg_wg pgs_wgs hs) ⟨v, vs, rfl, h _ (hr Q q)⟩
theorem mg_tup {k n : Nat} {a : Addr} {xs : List V} {τ : L2.St} (hc : X.calm = true) (ht : Rd H a (.tup xs)) (hl : xs.length = n) (h : MGs X ts xs σ H τ) (hn : (assignEach ts X.env).length = n := by rfl) (hst : (assignEach ts X.env).findIdx? (·.1) = none := by rfl) :
    MG X (.Tuple ts k pos) (.ref a) σ H τ := fun Q q => .of (pg_tup hc pgs_wgs hn hst) ⟨a, xs, rfl, .inl ht, hl, h Q q⟩
theorem wg_name (i : Nat) {x : Str} {v : V} {Q : L2.St → Hp → Prop} (hN : X.N.Nodup) (q : Q (σ.set i (some v)) H) (hi : X.N[i]? = some x := by rfl) (hx : Loc X.env.scope x := by first | exact Or.inl rfl | exact Or.inr rfl)
    (hf : X.fn x = true ∨ X.env.scope.names.lookup x = some .local := by first | exact .inl rfl | exact .inr rfl) : WG X (.Name x pos) v σ H Q := .of (pg_name hN hi hx hf) q
theorem wgs_nil {Q : L2.St → Hp → Prop} (q : Q σ H) : WGs X [] [] σ H Q := .of pgs_nil ⟨rfl, q⟩
theorem wgs_cons {v : V} {vs : List V} {Q : L2.St → Hp → Prop} (h : WG X e v σ H fun σ1 H1 => WGs X ts vs σ1 H1 Q) (hs : (assignEach (e :: ts) X.env).map (·.2) = assign e X.env :: (assignEach ts X.env).map (·.2) := by rfl) : WGs X (e :: ts) (v :: vs) σ H Q := .of (pgs_cons pg_wg pgs_wgs hs) ⟨v, vs, rfl, h⟩
theorem wg_tup {k n : Nat} {a : Addr} {xs : List V} {Q : L2.St → Hp → Prop} (hc : X.calm = true) (ht : Rd H a (.tup xs)) (h : WGs X ts xs σ H Q) (hl : xs.length = n := by rfl) (hn : (assignEach ts X.env).length = n := by rfl) (hst : (assignEach ts X.env).findIdx? (·.1) = none := by rfl) :
    WG X (.Tuple ts k pos) (.ref a) σ H Q := .of (pg_tup hc pgs_wgs hn hst) ⟨a, xs, rfl, .inl ht, hl, h⟩
/-- x, y, .. = e -/
theorem ws_asg {D : Ends} {tg : Expr} (h : WE X e σ H fun v H1 => WG X tg v σ H1 D.nx) (hs : swapsWithSole [tg] e pos.line X.env = pure false := by rfl) (hw : swappedStores [tg] e X.env = pure none := by rfl)
    (h1 : (assignEach [tg] X.env).map (·.2) = [assign tg X.env] := by rfl) : WS X (.Assign [tg] e pos) D σ H := .of (ps_asg pe_we pg_wg hs hw h1) h
end

/-! ### what is walked -/
structure WalkF (J : It) (n : Nat) (G : Hp → Prop) (Y : Nat → Pv) : Prop where
  go : ∀ i H, G H → i < n → J.go i H
  yld : ∀ i H x H', G H → i < n → J.yld i H x H' → Ex H H' ∧ Y i x H'
  stop : ∀ i H, G H → n ≤ i → J.stop i H
/-- G stands as long as the base stands and all new objects of the walk -/
def Holds (H H1 H2 : Hp) (G : Hp → Prop) : Prop := ∀ (D : Addr → Prop) (H3 H4 : Hp), (∀ b, D b → H b = none ∧ (H1 b ≠ none ∨ H2 b = none)) → ExB D H3 H4 → G H3 → G H4
/-- a walk of n turns, its base H -/
def MI (X : Cx) (tg iter : Expr) (σ : L2.St) (H : Hp) (n : Nat) (Y : Nat → Pv) : Prop := ∀ H1, Ex H H1 → ∀ R : It → Hp → Prop,
  (∀ J H2 G, Ex H1 H2 → G H2 → Holds H H1 H2 G → WalkF J n G Y → R J H2) → WI X tg iter σ H1 R
/-- the items are those of ds -/
def At {α : Type} (R : Rp α) (ds : List α) : Nat → Pv := fun i x H => ∃ d, ds[i]? = some d ∧ R d x H
section
variable {X : Cx} {tg iter e : Expr} {es : List Expr} {σ : L2.St} {H : Hp} {pos p : Pos} {α : Type} {R : Rp α} {ds : List α} {v : V}
theorem holdsBase {H H1 H2 : Hp} : Holds H H1 H2 (Ex H) := fun D H3 H4 hD x e => e |>.trans (exr _) |> fun e => ExB.off e x fun b d => (hD b d).1
theorem holdsNew {H H1 H2 : Hp} {c : Addr} {o : HO} (h1 : H1 c = none) (h2 : H2 c ≠ none) : Holds H H1 H2 fun H3 => Ex H H3 ∧ H3 c = some o := fun D H3 H4 hD x ⟨e, z⟩ =>
  ⟨holdsBase (H1 := H1) (H2 := H2) D H3 H4 hD x e, x c o (fun d => (hD c d).2.elim (fun q => q h1) h2) z⟩
/-- a tuple that stands -/
theorem mi_tup [m : MoR R] (h : ME X iter σ H (Is v)) (ht : Tu R ds v H) : MI X tg iter σ H ds.length (At R ds) := fun H1 x1 Q q => by
  obtain ⟨a, xs, rfl, ha, hp⟩ := ht
  refine .of (pi_tup pe_we) (h H1 x1 _ fun u H2 x2 p => ?_)
  have e : u = V.ref a := p
  rw [e]
  have at2 := rdMo (x1.trans x2) ha
  refine ⟨a, rfl, ⟨xs, .inl at2⟩, q _ H2 (Ex H) x2 (x1.trans x2) holdsBase ⟨fun i H3 g hi => ?_, fun i H3 x H' g hi y => ?_, fun i H3 g hi => ?_⟩⟩
  · have hx : i < xs.length := by rw [pLen hp]; exact hi
    exact ⟨xs, xs[i], .inl (rdMo g ha), List.getElem?_eq_getElem hx⟩
  · obtain ⟨e1, y⟩ := y
    subst e1
    have g1 := y xs (.inl (rdMo g ha))
    obtain ⟨x', h1, h2⟩ := pAt hp (List.getElem?_eq_getElem hi)
    rw [g1] at h1
    cases h1
    exact ⟨exr _, _, List.getElem?_eq_getElem hi, m.mo g h2⟩
  · exact ⟨xs, .inl (rdMo g ha), by rw [pLen hp]; exact hi⟩
/-- a list that stands -/
theorem mi_lst [m : MoR R] (h : ME X iter σ H (Is v)) (ht : Li R ds v H) : MI X tg iter σ H ds.length (At R ds) := fun H1 x1 Q q => by
  obtain ⟨a, xs, rfl, ha, hp⟩ := ht
  refine .of (pi_list pe_we) (h H1 x1 _ fun u H2 x2 p => ?_)
  have e : u = V.ref a := p
  rw [e]
  refine ⟨a, rfl, ⟨xs, SqL.of ((x1.trans x2) _ _ ha)⟩, q _ H2 (Ex H) x2 (x1.trans x2) holdsBase ⟨fun i H3 g hi => ?_, fun i H3 x H' g hi y => ?_, fun i H3 g hi => ?_⟩⟩
  · have hx : i < xs.length := by rw [pLen hp]; exact hi
    exact ⟨xs, xs[i], SqL.of (g _ _ ha), List.getElem?_eq_getElem hx⟩
  · obtain ⟨e1, y⟩ := y
    subst e1
    have g1 := y xs (SqL.of (g _ _ ha))
    obtain ⟨x', h1, h2⟩ := pAt hp (List.getElem?_eq_getElem hi)
    rw [g1] at h1
    cases h1
    exact ⟨exr _, _, List.getElem?_eq_getElem hi, m.mo g h2⟩
  · exact ⟨xs, SqL.of (g _ _ ha), by rw [pLen hp]; exact hi⟩
/-- range(n) -/
theorem mi_range {j : Int} {a : Expr} (hm : X.mg "range" = none) (h : ME X a σ H (Is (.int j))) (h1 : -(2 ^ 62) ≤ j) (h2 : j < 2 ^ 62) (hg : Gl X "range" := by rfl) (hst : starEach [a] X.env = (false, eval a X.env) :: starEach [] X.env := by rfl) (hs : starEach [a] X.env = [(false, eval a X.env)] := by rfl) :
    MI X tg (.Call (.Name "range" p) [a] [] pos) σ H j.toNat fun i x _ => x = .int (i : Nat) := fun H1 x1 Q q =>
  .of (pi_range1 hg hm (pa_cons pe_we pa_nil hst) hs) (h H1 x1 _ fun u H2 x2 p => by
    have e : u = .int j := p
    refine ⟨j, by rw [e], h1, h2, q _ H2 (Ex H) x2 (x1.trans x2) holdsBase ⟨fun i H3 g hi => hi, fun i H3 x H' g hi y => ?_, fun i H3 g hi => hi⟩⟩
    obtain ⟨e1, y⟩ := y
    subst e1
    exact ⟨exr _, by rw [y, Int.zero_add]⟩)
/-- range(a, b) -/
theorem mi_range2 {i0 j : Int} {a b : Expr} (hm : X.mg "range" = none) (ha : ME X a σ H (Is (.int i0))) (hb : ME X b σ H (Is (.int j))) (h1 : -(2 ^ 62) ≤ i0 ∧ i0 < 2 ^ 62 ∧ -(2 ^ 62) ≤ j ∧ j < 2 ^ 62) (hg : Gl X "range" := by rfl)
    (ha1 : starEach [a, b] X.env = (false, eval a X.env) :: starEach [b] X.env := by rfl) (hb1 : starEach [b] X.env = (false, eval b X.env) :: starEach [] X.env := by rfl)
    (hs : starEach [a, b] X.env = [(false, eval a X.env), (false, eval b X.env)] := by rfl) (hs2 : starEach [b] X.env = [(false, eval b X.env)] := by rfl) :
    MI X tg (.Call (.Name "range" p) [a, b] [] pos) σ H (j - i0).toNat fun i x _ => x = .int (i0 + (i : Nat)) := fun H1 x1 Q q =>
  .of (pi_range2 hg hm (pa_cons pe_we (pa_cons pe_we pa_nil hb1) ha1) hs hs2) (ha H1 x1 _ fun u H2 x2 p => hb H2 (x1.trans x2) _ fun w H3 x3 p3 => by
    have e : u = .int i0 := p
    have e2 : w = .int j := p3
    refine ⟨i0, j, by rw [e, e2], h1, q _ H3 (Ex H) (x2.trans x3) ((x1.trans x2).trans x3) holdsBase ⟨fun i H3 g hi => hi, fun i H3 x H' g hi y => ?_, fun i H3 g hi => hi⟩⟩
    obtain ⟨e1, y⟩ := y
    subst e1
    exact ⟨exr _, y⟩)
end

/-! ### for -/
section
variable {X : Cx} {tg iter : Expr} {body : List Stmt} {σ : L2.St} {H0 H : Hp} {E : Ends} {pos : Pos} {n : Nat} {Y : Nat → Pv}
theorem ws_for (D : Addr → Prop) (P : Nat → L2.St → Hp → Prop) (mi : MI X tg iter σ H0 n Y) (x0 : Ex H0 H) (hD : ∀ b, D b → H0 b = none ∧ H b ≠ none) (hp : PassesOwn (model X.prog X.w) X.A X.env X.xe) (hc : X.calm = true)
    (h0 : ∀ H2, Ex H H2 → P 0 σ H2)
    (hs : ∀ i x σ' H3 H4, i < n → P i σ' H3 → Ex H3 H4 → Y i x H4 → WG X tg x σ' H4 fun σ2 H5 =>
      WSs X body { E with nx := fun σ3 H6 => P (i + 1) σ3 H6 ∧ ExB D H3 H6, ct := fun σ3 H6 => P (i + 1) σ3 H6 ∧ ExB D H3 H6, bk := E.nx } σ2 H5)
    (hd : ∀ σ' H3, P n σ' H3 → E.nx σ' H3) (hf : ∀ x, foldedSetIterable iter X.env x = pure x := by intro _; rfl) : WS X (.For tg iter body [] pos) E σ H := by
  refine .of (ps_for hp hc pi_wi pg_wg pss_wss hf) (mi H x0 _ fun J H2 G x2 g hold W => ?_)
  have off : ∀ b, D b → H0 b = none ∧ (H b ≠ none ∨ H2 b = none) := fun b d => ⟨(hD b d).1, .inl (hD b d).2⟩
  refine ⟨fun i m σ' H3 => m = n - i ∧ i ≤ n ∧ P i σ' H3 ∧ G H3, ⟨n, by omega, Nat.zero_le _, h0 H2 x2, g⟩, ?_⟩
  rintro i m σ' H3 ⟨rfl, hi, hP, hG⟩
  by_cases hlt : i < n
  · refine .inr ⟨W.go i H3 hG hlt, fun σ3 H6 => P (i + 1) σ3 H6 ∧ ExB D H3 H6, fun σ3 H6 ⟨hP', xb⟩ => ⟨n - (i + 1), by omega, rfl, hlt, hP', hold D H3 H6 off xb hG⟩, fun x H4 y => ?_⟩
    obtain ⟨x4, y4⟩ := W.yld i H3 x H4 hG hlt y
    exact hs i x σ' H3 H4 hlt hP x4 y4
  · have e : i = n := by omega
    subst e
    exact .inl ⟨W.stop i H3 hG (Nat.le_refl _), hd σ' H3 hP⟩
end

theorem filterAll {α : Type} (l : List α) : l.filter (fun _ => true) = l := List.filter_eq_self.mpr fun _ _ => rfl
/-! ### what hangs on tuples alone -/
def Tk (H H' : Hp) : Prop := ∀ b xs, Rd H b (.tup xs) → Rd H' b (.tup xs)
class Im {α : Type} (R : Rp α) : Prop where
  im : ∀ {d : α} {v : V} {H H' : Hp}, Tk H H' → R d v H → R d v H'
theorem tkEx {H H' : Hp} (x : Ex H H') : Tk H H' := fun _ _ => rdMo x
instance {α : Type} {R : Rp α} [m : Im R] : MoR R := ⟨fun x => m.im (tkEx x)⟩
instance : Im RI := ⟨fun _ h => h⟩
instance : Im RB := ⟨fun _ h => h⟩
instance {α : Type} {R : Rp α} [m : Im R] : Im (Tu R) := ⟨fun e ⟨a, xs, h1, h2, h3⟩ => ⟨a, xs, h1, e _ _ h2, pImp (fun _ _ => m.im e) h3⟩⟩
theorem tkUp {H : Hp} {p : Addr} {o u : HO} (h : H p = some o) (n1 : ∀ xs, o ≠ .tup xs) (n2 : ∀ ob xs, o ≠ .frz ob (.tup xs)) : Tk H (upd H p u) := fun b xs r => by
  have nb : b ≠ p := fun q => by
    subst q
    rcases r with r | ⟨ob, r⟩
    · rw [h] at r
      exact n1 xs (Option.some.inj r)
    · rw [h] at r
      exact n2 ob xs (Option.some.inj r)
  rcases r with r | ⟨ob, r⟩
  · exact .inl (by rw [upd_ne nb]; exact r)
  · exact .inr ⟨ob, by rw [upd_ne nb]; exact r⟩
theorem tkL {H : Hp} {p : Addr} {ys : List V} {u : HO} (h : H p = some (.lst ys)) : Tk H (upd H p u) := tkUp h (fun _ q => nomatch q) fun _ _ q => nomatch q

/-! ### comprehensions -/
/-- .. the value a new object -/
def MN (X : Cx) (e : Expr) (σ : L2.St) (H : Hp) (P : Pv) : Prop := ∀ H1, Ex H H1 → ∀ Q : VK, (∀ a H2, H1 a = none → Ex H1 H2 → P (.ref a) H2 → Q (.ref a) H2) → WE X e σ H1 Q
theorem MN.me {X : Cx} {e : Expr} {σ : L2.St} {H : Hp} {P : Pv} (h : MN X e σ H P) : ME X e σ H P := fun H1 x1 Q q => h H1 x1 Q fun a H2 _ x2 p => q _ H2 x2 p
theorem MN.we {X : Cx} {e : Expr} {σ : L2.St} {H : Hp} {P : Pv} (h : MN X e σ H P) {Q : VK} (q : ∀ a H2, H a = none → Ex H H2 → P (.ref a) H2 → Q (.ref a) H2) : WE X e σ H Q := h H (exr H) Q q
section
variable {X : Cx} {tg iter elt c : Expr} {ifs : List Expr} {scope : Scope} {σ : L2.St} {H : Hp} {pos spos py : Pos} {α β : Type} {R : Rp α} {S : Rp β} {ds : List α} {own : List (Str × Nat)}
/-- in every block that the comprehension may run in -/
abbrev inBlk (X : Cx) (scope : Scope) (P : Cx → Prop) : Prop := ∀ (s : Shared) (H : Hp) (C : Addr) (cl : List (Str × Addr)) (fp : List Addr), P (X.blk s H scope (compEnvC scope cl C X.env) fp)
def bE (X : Cx) (scope : Scope) (e : Expr) : TE := fun σ H Q => inBlk X scope fun Y => WE Y e σ H Q
def bT (X : Cx) (scope : Scope) (e : Expr) : TT := fun σ H Q => inBlk X scope fun Y => WT Y e σ H Q
def bG (X : Cx) (scope : Scope) (e : Expr) : TG := fun v σ H Q => inBlk X scope fun Y => WG Y e v σ H Q
theorem pe_bE : inBlk X scope fun Y => PE Y elt (bE X scope elt) := fun s H C cl fp => ⟨fun pins s' _ _ _ I h => (h s H C cl fp).run pins s' I⟩
theorem pt_bT : inBlk X scope fun Y => PT Y elt (bT X scope elt) := fun s H C cl fp => ⟨fun pins s' _ _ _ I h => h s H C cl fp pins s' I⟩
theorem pg_bG : inBlk X scope fun Y => PG Y tg (bG X scope tg) := fun s H C cl fp => ⟨fun pins s' _ _ _ u _ I r h => h s H C cl fp pins s' u I r⟩
/-- what a comprehension asks, from what is known of one turn -/
theorem lcAsk [ms : Im S] {tt : TT} (mi : MI X tg iter σ H ds.length (At R ds)) (p : α → Bool) (f : α → β) (small : ds.length < sizeLine)
    (turn : ∀ d x H3, d ∈ ds → Ex H H3 → R d x H3 → ∃ τ, (inBlk X scope fun Y => MG Y tg x (wipe σ (own.map (·.2))) H3 τ) ∧
      (∀ Q : Bool → Hp → Prop, (∀ H4, Ex H3 H4 → Q (p d) H4) → tt τ H3 Q) ∧ (p d = true → inBlk X scope fun Y => ME Y elt τ H3 (S (f d))) ∧ wipe τ (own.map (·.2)) = wipe σ (own.map (·.2)))
    {H1 : Hp} (x1 : Ex H H1) {Q : VK} (q : ∀ a H2, H1 a = none → Ex H1 H2 → Li S ((ds.filter p).map f) (.ref a) H2 → Q (.ref a) H2) :
    tLc (WI X tg iter) (bG X scope tg) tt (bE X scope elt) (own.map (·.2)) σ H1 Q := by
  refine mi H1 x1 _ fun J H2 G x2 g hold W D hD => ?_
  have nD : H1 D = none := Evl.fresh_back x2 hD
  have nH : H D = none := Evl.fresh_back x1 nD
  have off : ∀ b, b = D → H b = none ∧ (H1 b ≠ none ∨ H2 b = none) := fun b d => by rw [d]; exact ⟨nH, .inr hD⟩
  have outLen : ∀ i, (((ds.take i).filter p).map f).length ≤ i := fun i => by
    rw [List.length_map]
    exact Nat.le_trans (List.length_filter_le _ _) (List.length_take_le _ _)
  refine ⟨fun i m H3 => m = ds.length - i ∧ i ≤ ds.length ∧ G H3 ∧ Ex H H3 ∧ Ex H2 H3 ∧ ∃ ys, H3 D = some (.lst ys) ∧ Paired (fun x d => S d x H3) ys (((ds.take i).filter p).map f),
    ⟨ds.length, by omega, Nat.zero_le _, hold (· = D) H2 _ off (ExB.up rfl) g, (x1.trans x2).trans (exNew hD), exNew hD, [], upd_same, .nil⟩, ?_⟩
  rintro i m H3 ⟨rfl, hi, hG, b3, x3, ys, hys, hp⟩
  by_cases hlt : i < ds.length
  · refine .inr ⟨W.go i H3 hG hlt, fun H6 => G H6 ∧ Ex H H6 ∧ Ex H2 H6 ∧ ∃ ys, H6 D = some (.lst ys) ∧ Paired (fun x d => S d x H6) ys (((ds.take (i + 1)).filter p).map f),
      fun H6 ⟨g6, b6, x6, z⟩ => ⟨ds.length - (i + 1), by omega, rfl, hlt, g6, b6, x6, z⟩, fun x H4 y => ?_⟩
    obtain ⟨x4, d, hd, hr⟩ := W.yld i H3 x H4 hG hlt y
    obtain ⟨τ, w2, w3, w4, w1⟩ := turn d x H4 (List.mem_of_getElem? hd) (b3.trans x4) hr
    have keep : ∀ {H5 H6 : Hp}, Ex H3 H5 → ExB (· = D) H5 H6 → G H6 := fun {H5 H6} a b => hold (· = D) H3 H6 off ((ExB.of a).trans b) hG
    have stepL : ∀ b, p d = b → ((ds.take (i + 1)).filter p).map f = ((ds.take i).filter p).map f ++ (if b = true then [f d] else []) := fun b e => by
      rw [List.take_add_one, hd, List.filter_append, List.map_append]
      cases b with
      | true => simp [e]
      | false => simp [e]
    intro s0 H0 C cl fp
    refine w2 s0 H0 C cl fp _ ⟨w1, w3 _ fun H5 x5 => ?_⟩
    cases hb : p d with
    | true =>
      refine iteT fun s1 H01 C1 cl1 fp1 => (w4 hb s1 H01 C1 cl1 fp1).ex x5 fun v H6 x6 r6 => ?_
      have x36 : Ex H3 H6 := (x4.trans x5).trans x6
      have h6 : H6 D = some (.lst ys) := x36 _ _ hys
      have lys : ys.length ≤ i := by rw [pLen hp]; exact outLen i
      have mo : ∀ {d x}, S d x H6 → S d x (upd H6 D (.lst (ys ++ [v]))) := fun {d x} r => ms.im (tkL h6) r
      · refine ⟨ys, h6, by omega, keep x36 (ExB.up rfl), ?_, ?_, ys ++ [v], upd_same, ?_⟩
        · exact ExB.off (D := (· = D)) (b3.trans x36) (ExB.up rfl) fun b e => by rw [e]; exact nH
        · exact ExB.off (D := (· = D)) (x3.trans x36) (ExB.up rfl) fun b e => by rw [e]; exact hD
        · rw [stepL true hb]
          exact pApp (pImp (fun _ _ r => mo ((MoR.mo (R := S)) x36 r)) hp) (.cons (mo r6) .nil)
    | false =>
      refine iteF ⟨keep (x4.trans x5) (ExB.of (exr _)), b3.trans (x4.trans x5), x3.trans (x4.trans x5), ys, (x4.trans x5) _ _ hys, ?_⟩
      rw [stepL false hb]
      simp only [Bool.false_eq_true, if_false, List.append_nil]
      exact pImp (fun _ _ r => (MoR.mo (R := S)) (x4.trans x5) r) hp
  · have e : i = ds.length := by omega
    subst e
    rw [List.take_length] at hp
    exact .inl ⟨W.stop _ H3 hG (Nat.le_refl _), q D H3 nD (x2.trans x3) ⟨D, ys, rfl, hys, hp⟩⟩

/-- [elt for tg in iter] -/
theorem mn_lc0 [Im S] (own : List (Str × Nat)) (mi : MI X tg iter σ H ds.length (At R ds)) (f : α → β) (small : ds.length < sizeLine)
    (turn : ∀ d x H3, d ∈ ds → Ex H H3 → R d x H3 → ∃ τ, (inBlk X scope fun Y => MG Y tg x (wipe σ (own.map (·.2))) H3 τ) ∧ (inBlk X scope fun Y => ME Y elt τ H3 (S (f d))) ∧ wipe τ (own.map (·.2)) = wipe σ (own.map (·.2)))
    (hN : X.N.Nodup) (ok : BlkOk X.N X.env.scope scope own) (hc : X.calm = true := by rfl) (hs : ∀ x, foldedSetIterable iter X.env x = pure x := by intro _; rfl) : MN X (.ListComp elt [⟨tg, iter, [], 0⟩] scope pos) σ H (Li S (ds.map f)) := fun H1 x1 Q q => by
  refine .of (pe_lc hc hN pi_wi ok pg_bG (fun _ _ _ _ _ => pts_nil) pe_bE hs) (lcAsk (S := S) (own := own) (Q := Q) mi (fun _ => true) f small (fun d x H3 hd x3 r => ?_) x1 fun a H2 n x2 p => q a H2 n x2 ?_)
  · obtain ⟨τ, w2, w3, w1⟩ := turn d x H3 hd x3 r
    exact ⟨τ, w2, fun Q q => q H3 (exr _), fun _ => w3, w1⟩
  · rw [filterAll] at p
    exact p
/-- [elt for tg in iter if c] -/
theorem mn_lc1 [Im S] (own : List (Str × Nat)) (mi : MI X tg iter σ H ds.length (At R ds)) (p : α → Bool) (f : α → β) (small : ds.length < sizeLine)
    (turn : ∀ d x H3, d ∈ ds → Ex H H3 → R d x H3 → ∃ τ, (inBlk X scope fun Y => MG Y tg x (wipe σ (own.map (·.2))) H3 τ) ∧
      (inBlk X scope fun Y => MT Y c τ H3 (p d)) ∧ (p d = true → inBlk X scope fun Y => ME Y elt τ H3 (S (f d))) ∧ wipe τ (own.map (·.2)) = wipe σ (own.map (·.2)))
    (hN : X.N.Nodup) (ok : BlkOk X.N X.env.scope scope own) (hc : X.calm = true := by rfl) (hs : ∀ x, foldedSetIterable iter X.env x = pure x := by intro _; rfl) : MN X (.ListComp elt [⟨tg, iter, [c], 0⟩] scope pos) σ H (Li S ((ds.filter p).map f)) := fun H1 x1 Q q =>
  .of (pe_lc hc hN pi_wi ok pg_bG (fun s H C cl fp => pts_one (pt_bT s H C cl fp)) pe_bE hs) (lcAsk (S := S) (own := own) (Q := Q) mi p f small (fun d x H3 hd x3 r => by
    obtain ⟨τ, w2, w3, w4, w1⟩ := turn d x H3 hd x3 r
    exact ⟨τ, w2, fun Q q s H0 C cl fp => w3 s H0 C cl fp H3 (exr _) Q q, w4, w1⟩) x1 q)
/-- name = [..] on one line, the name a local -/
theorem ws_lc0 [Im S] {D : Ends} (i : Nat) {y : Str} (own : List (Str × Nat)) (mi : MI X tg iter σ H ds.length (At R ds)) (f : α → β) (small : ds.length < sizeLine)
    (turn : ∀ d x H3, d ∈ ds → Ex H H3 → R d x H3 → ∃ τ, (inBlk X scope fun Y => MG Y tg x (wipe σ (own.map (·.2))) H3 τ) ∧ (inBlk X scope fun Y => ME Y elt τ H3 (S (f d))) ∧ wipe τ (own.map (·.2)) = wipe σ (own.map (·.2)))
    (next : ∀ a H2, H a = none → Ex H H2 → Li S (ds.map f) (.ref a) H2 → D.nx (σ.set i (some (.ref a))) H2)
    (hN : X.N.Nodup) (ok : BlkOk X.N X.env.scope scope own) (hy : X.N[i]? = some y := by rfl) (hyl : X.env.scope.names.lookup y = some .local := by rfl) (hsw : swapsWith (.ListComp elt [⟨tg, iter, [], 0⟩] scope pos) (some (.Name y py)) spos.line X.env = pure true := by exact sw_true rfl rfl rfl (by decide +kernel))
    (hc : X.calm = true := by rfl) (hs : ∀ x, foldedSetIterable iter X.env x = pure x := by intro _; rfl) : WS X (.Assign [.Name y py] (.ListComp elt [⟨tg, iter, [], 0⟩] scope pos) spos) D σ H := by
  refine .of (ps_setLc hc hN hy hyl hsw pi_wi ok pg_bG (fun _ _ _ _ _ => pts_nil) pe_bE hs) (lcAsk (S := S) (own := own) (Q := fun v H1 => D.nx (σ.set i (some v)) H1) mi (fun _ => true) f small (fun d x H3 hd x3 r => ?_) (exr H) fun a H2 n x2 p => next a H2 n x2 ?_)
  · obtain ⟨τ, w2, w3, w1⟩ := turn d x H3 hd x3 r
    exact ⟨τ, w2, fun Q q => q H3 (exr _), fun _ => w3, w1⟩
  · rw [filterAll] at p
    exact p
theorem ws_lc1 [Im S] {D : Ends} (i : Nat) {y : Str} (own : List (Str × Nat)) (mi : MI X tg iter σ H ds.length (At R ds)) (p : α → Bool) (f : α → β) (small : ds.length < sizeLine)
    (turn : ∀ d x H3, d ∈ ds → Ex H H3 → R d x H3 → ∃ τ, (inBlk X scope fun Y => MG Y tg x (wipe σ (own.map (·.2))) H3 τ) ∧
      (inBlk X scope fun Y => MT Y c τ H3 (p d)) ∧ (p d = true → inBlk X scope fun Y => ME Y elt τ H3 (S (f d))) ∧ wipe τ (own.map (·.2)) = wipe σ (own.map (·.2)))
    (next : ∀ a H2, H a = none → Ex H H2 → Li S ((ds.filter p).map f) (.ref a) H2 → D.nx (σ.set i (some (.ref a))) H2)
    (hN : X.N.Nodup) (ok : BlkOk X.N X.env.scope scope own) (hy : X.N[i]? = some y := by rfl) (hyl : X.env.scope.names.lookup y = some .local := by rfl) (hsw : swapsWith (.ListComp elt [⟨tg, iter, [c], 0⟩] scope pos) (some (.Name y py)) spos.line X.env = pure true := by exact sw_true rfl rfl rfl (by decide +kernel))
    (hc : X.calm = true := by rfl) (hs : ∀ x, foldedSetIterable iter X.env x = pure x := by intro _; rfl) : WS X (.Assign [.Name y py] (.ListComp elt [⟨tg, iter, [c], 0⟩] scope pos) spos) D σ H :=
  .of (ps_setLc hc hN hy hyl hsw pi_wi ok pg_bG (fun s H C cl fp => pts_one (pt_bT s H C cl fp)) pe_bE hs) (lcAsk (S := S) (own := own) (Q := fun v H1 => D.nx (σ.set i (some v)) H1) mi p f small (fun d x H3 hd x3 r => by
    obtain ⟨τ, w2, w3, w4, w1⟩ := turn d x H3 hd x3 r
    exact ⟨τ, w2, fun Q q s H0 C cl fp => w3 s H0 C cl fp H3 (exr _) Q q, w4, w1⟩) (exr H) next)

/-! #### .. whose target is one name -/
variable {x : Str} {px : Pos}
theorem set2 {σ : L2.St} {i : Nat} {v w : Option V} : (σ.set i v).set i w = σ.set i w := List.set_set _
theorem mn_n0 [Im S] (i : Nat) (mi : MI X (.Name x px) iter σ H ds.length (At R ds)) (f : α → β) (small : ds.length < sizeLine) (turn : ∀ d v H3, d ∈ ds → Ex H H3 → R d v H3 → inBlk X scope fun Y => ME Y elt (σ.set i (some v)) H3 (S (f d)))
    (hN : X.N.Nodup) (ok : BlkOk X.N X.env.scope scope [(x, i)]) (hx : inBlk X scope fun Y => Loc Y.env.scope x := by intro _ _ _ _ _; first | exact Or.inl rfl | exact Or.inr rfl)
    (hf : inBlk X scope fun Y => Y.fn x = true ∨ Y.env.scope.names.lookup x = some .local := by intro _ _ _ _ _; first | exact Or.inl rfl | exact Or.inr rfl) (hc : X.calm = true := by rfl) (hs : ∀ x, foldedSetIterable iter X.env x = pure x := by intro _; rfl) :
    MN X (.ListComp elt [⟨.Name x px, iter, [], 0⟩] scope pos) σ H (Li S (ds.map f)) :=
  mn_lc0 [(x, i)] mi f small (fun d v H3 hd x3 r => ⟨σ.set i (some v), fun s H0 C cl fp => by
    have h := mg_name (X := X.blk s H0 scope (compEnvC scope cl C X.env) fp) (pos := px) (v := v) (σ := σ.set i none) (H := H3) i hN (ok.ix _ List.mem_cons_self) (hx s H0 C cl fp) (hf s H0 C cl fp)
    rw [set2] at h
    exact h, turn d v H3 hd x3 r, set2⟩) hN ok hc hs
theorem mn_n1 [Im S] (i : Nat) (mi : MI X (.Name x px) iter σ H ds.length (At R ds)) (p : α → Bool) (f : α → β) (small : ds.length < sizeLine)
    (turn : ∀ d v H3, d ∈ ds → Ex H H3 → R d v H3 → (inBlk X scope fun Y => MT Y c (σ.set i (some v)) H3 (p d)) ∧ (p d = true → inBlk X scope fun Y => ME Y elt (σ.set i (some v)) H3 (S (f d))))
    (hN : X.N.Nodup) (ok : BlkOk X.N X.env.scope scope [(x, i)]) (hx : inBlk X scope fun Y => Loc Y.env.scope x := by intro _ _ _ _ _; first | exact Or.inl rfl | exact Or.inr rfl)
    (hf : inBlk X scope fun Y => Y.fn x = true ∨ Y.env.scope.names.lookup x = some .local := by intro _ _ _ _ _; first | exact Or.inl rfl | exact Or.inr rfl) (hc : X.calm = true := by rfl) (hs : ∀ x, foldedSetIterable iter X.env x = pure x := by intro _; rfl) :
    MN X (.ListComp elt [⟨.Name x px, iter, [c], 0⟩] scope pos) σ H (Li S ((ds.filter p).map f)) :=
  mn_lc1 [(x, i)] mi p f small (fun d v H3 hd x3 r => ⟨σ.set i (some v), fun s H0 C cl fp => by
    have h := mg_name (X := X.blk s H0 scope (compEnvC scope cl C X.env) fp) (pos := px) (v := v) (σ := σ.set i none) (H := H3) i hN (ok.ix _ List.mem_cons_self) (hx s H0 C cl fp) (hf s H0 C cl fp)
    rw [set2] at h
    exact h, (turn d v H3 hd x3 r).1, (turn d v H3 hd x3 r).2, set2⟩) hN ok hc hs
theorem ws_n0 [Im S] {D : Ends} {j : Nat} {y : Str} (i : Nat) (mi : MI X (.Name x px) iter σ H ds.length (At R ds)) (f : α → β) (small : ds.length < sizeLine) (turn : ∀ d v H3, d ∈ ds → Ex H H3 → R d v H3 → inBlk X scope fun Y => ME Y elt (σ.set i (some v)) H3 (S (f d)))
    (next : ∀ a H2, H a = none → Ex H H2 → Li S (ds.map f) (.ref a) H2 → D.nx (σ.set j (some (.ref a))) H2) (hN : X.N.Nodup) (ok : BlkOk X.N X.env.scope scope [(x, i)]) (hy : X.N[j]? = some y := by rfl) (hyl : X.env.scope.names.lookup y = some .local := by rfl)
    (hsw : swapsWith (.ListComp elt [⟨.Name x px, iter, [], 0⟩] scope pos) (some (.Name y py)) spos.line X.env = pure true := by exact sw_true rfl rfl rfl (by decide +kernel)) (hx : inBlk X scope fun Y => Loc Y.env.scope x := by intro _ _ _ _ _; first | exact Or.inl rfl | exact Or.inr rfl)
    (hf : inBlk X scope fun Y => Y.fn x = true ∨ Y.env.scope.names.lookup x = some .local := by intro _ _ _ _ _; first | exact Or.inl rfl | exact Or.inr rfl) (hc : X.calm = true := by rfl) (hs : ∀ x, foldedSetIterable iter X.env x = pure x := by intro _; rfl) :
    WS X (.Assign [.Name y py] (.ListComp elt [⟨.Name x px, iter, [], 0⟩] scope pos) spos) D σ H :=
  ws_lc0 (S := S) j [(x, i)] mi f small (fun d v H3 hd x3 r => ⟨σ.set i (some v), fun s H0 C cl fp => by
    have h := mg_name (X := X.blk s H0 scope (compEnvC scope cl C X.env) fp) (pos := px) (v := v) (σ := σ.set i none) (H := H3) i hN (ok.ix _ List.mem_cons_self) (hx s H0 C cl fp) (hf s H0 C cl fp)
    rw [set2] at h
    exact h, turn d v H3 hd x3 r, set2⟩) next hN ok hy hyl hsw hc hs
theorem ws_n1 [Im S] {D : Ends} {j : Nat} {y : Str} (i : Nat) (mi : MI X (.Name x px) iter σ H ds.length (At R ds)) (p : α → Bool) (f : α → β) (small : ds.length < sizeLine)
    (turn : ∀ d v H3, d ∈ ds → Ex H H3 → R d v H3 → (inBlk X scope fun Y => MT Y c (σ.set i (some v)) H3 (p d)) ∧ (p d = true → inBlk X scope fun Y => ME Y elt (σ.set i (some v)) H3 (S (f d))))
    (next : ∀ a H2, H a = none → Ex H H2 → Li S ((ds.filter p).map f) (.ref a) H2 → D.nx (σ.set j (some (.ref a))) H2) (hN : X.N.Nodup) (ok : BlkOk X.N X.env.scope scope [(x, i)]) (hy : X.N[j]? = some y := by rfl) (hyl : X.env.scope.names.lookup y = some .local := by rfl)
    (hsw : swapsWith (.ListComp elt [⟨.Name x px, iter, [c], 0⟩] scope pos) (some (.Name y py)) spos.line X.env = pure true := by exact sw_true rfl rfl rfl (by decide +kernel)) (hx : inBlk X scope fun Y => Loc Y.env.scope x := by intro _ _ _ _ _; first | exact Or.inl rfl | exact Or.inr rfl)
    (hf : inBlk X scope fun Y => Y.fn x = true ∨ Y.env.scope.names.lookup x = some .local := by intro _ _ _ _ _; first | exact Or.inl rfl | exact Or.inr rfl) (hc : X.calm = true := by rfl) (hs : ∀ x, foldedSetIterable iter X.env x = pure x := by intro _; rfl) :
    WS X (.Assign [.Name y py] (.ListComp elt [⟨.Name x px, iter, [c], 0⟩] scope pos) spos) D σ H :=
  ws_lc1 (S := S) j [(x, i)] mi p f small (fun d v H3 hd x3 r => ⟨σ.set i (some v), fun s H0 C cl fp => by
    have h := mg_name (X := X.blk s H0 scope (compEnvC scope cl C X.env) fp) (pos := px) (v := v) (σ := σ.set i none) (H := H3) i hN (ok.ix _ List.mem_cons_self) (hx s H0 C cl fp) (hf s H0 C cl fp)
    rw [set2] at h
    exact h, (turn d v H3 hd x3 r).1, (turn d v H3 hd x3 r).2, set2⟩) next hN ok hy hyl hsw hc hs
end
end Wk
set_option Elab.async false
set_option linter.all false
set_option maxRecDepth 100000
set_option maxHeartbeats 4000000
/-! Evaluations of the built-ins' calls, subscripts, displays, comparisons, over what values stand for. -/
namespace Wk
open PySem PySem.Spec PyProof.Rows L2

/-- the built-ins that no name of the module hides -/
structure Bl (mg : Str → Option Value) : Prop where
  len : mg "len" = none
  isi : mg "isinstance" = none
  int : mg "int" = none
  bool : mg "bool" = none
  tuple : mg "tuple" = none
  all : mg "all" = none
  any : mg "any" = none
  set : mg "set" = none
  sorted : mg "sorted" = none
  list : mg "list" = none
  zip : mg "zip" = none
  enum : mg "enumerate" = none
  dict : mg "dict" = none
  range : mg "range" = none
  sum : mg "sum" = none
  min : mg "min" = none
theorem btAll : bootBuiltins "all" = some (.builtin "all") := by decide +kernel
theorem btAny : bootBuiltins "any" = some (.builtin "any") := by decide +kernel
theorem btLen : bootBuiltins "len" = some (.builtin "len") := by decide +kernel
theorem btIsi : bootBuiltins "isinstance" = some (.builtin "isinstance") := by decide +kernel
theorem btInt : bootBuiltins "int" = some (.type "int") := by decide +kernel
theorem btBool : bootBuiltins "bool" = some (.type "bool") := by decide +kernel
theorem btTuple : bootBuiltins "tuple" = some (.type "tuple") := by decide +kernel
theorem btSorted : bootBuiltins "sorted" = some (.builtin "sorted") := by decide +kernel
theorem btList : bootBuiltins "list" = some (.type "list") := by decide +kernel
theorem btSum : bootBuiltins "sum" = some (.builtin "sum") := by decide +kernel
theorem btMin : bootBuiltins "min" = some (.builtin "min") := by decide +kernel
theorem btDict : bootBuiltins "dict" = some (.type "dict") := by decide +kernel

theorem sq1000 {n : Nat} (h : n ≤ 1000) : n ≤ sizeLine := Nat.le_of_lt (small1000 h)
theorem pairLen {α : Type} {R : Rp α} {xs : List V} {ds : List α} {H : Hp} (h : Paired (fun x d => R d x H) xs ds) : xs.length = ds.length := pLen h

section
variable {X : Cx} {e a b c : Expr} {es : List Expr} {σ : L2.St} {H : Hp} {pos p : Pos} {α β : Type} {R : Rp α} {S : Rp β} {ds : List α} {P : Pv}

/-! ### calls of built-ins -/
theorem me_lenT [MoR R] (B : Bl X.mg) (h : ME X a σ H (Tu R ds)) (hg : Gl X "len" := by rfl) (hs : starEach [a] X.env = (false, eval a X.env) :: starEach [] X.env := by rfl) : ME X (.Call (.Name "len" p) [a] [] pos) σ H (Is (.int ds.length)) :=
  me_cB call_len_seq B.len btLen (ma_cons h ma_nil hs) (fun vs H1 x1 ps => by
    obtain ⟨x, rfl, q, xs, rfl, h2, h3⟩ := p1 ps
    exact fun Q k => ⟨q, xs, rfl, .inr (.inl h2), k _ H1 (exr H1) (by rw [pairLen h3]; rfl)⟩) hg (by decide) (by decide) hs rfl
theorem me_lenL [MoR R] (B : Bl X.mg) (h : ME X a σ H (Li R ds)) (hg : Gl X "len" := by rfl) (hs : starEach [a] X.env = (false, eval a X.env) :: starEach [] X.env := by rfl) : ME X (.Call (.Name "len" p) [a] [] pos) σ H (Is (.int ds.length)) :=
  me_cB call_len_seq B.len btLen (ma_cons h ma_nil hs) (fun vs H1 x1 ps => by
    obtain ⟨x, rfl, q, xs, rfl, h2, h3⟩ := p1 ps
    exact fun Q k => ⟨q, xs, rfl, .inl (SqL.of h2), k _ H1 (exr H1) (by rw [pairLen h3]; rfl)⟩) hg (by decide) (by decide) hs rfl
/-- tuple(xs), xs a list | a tuple -/
theorem me_tuL [m : MoR R] (B : Bl X.mg) (h : ME X a σ H (Li R ds)) (hg : Gl X "tuple" := by rfl) (hs : starEach [a] X.env = (false, eval a X.env) :: starEach [] X.env := by rfl) : MN X (.Call (.Name "tuple" p) [a] [] pos) σ H (Tu R ds) := fun H1 x1 Q k =>
  .of (pe_callTy call_tuple_of hg B.tuple btTuple pa_wa (by decide) (by decide) hs rfl) (ma_cons h ma_nil hs H1 x1 _ fun vs H2 x2 ps => by
    obtain ⟨x, rfl, q, xs, rfl, h2, h3⟩ := p1 ps
    exact ⟨q, xs, rfl, .inl ⟨SqL.of h2, fun l hl => k l _ (Evl.fresh_back x2 hl) (x2.trans (exNew hl)) ⟨l, xs, rfl, .inl upd_same, pImp (fun _ _ => m.mo (exNew hl)) h3⟩⟩⟩)
theorem me_tuT [m : MoR R] (B : Bl X.mg) (h : ME X a σ H (Tu R ds)) (hg : Gl X "tuple" := by rfl) (hs : starEach [a] X.env = (false, eval a X.env) :: starEach [] X.env := by rfl) : ME X (.Call (.Name "tuple" p) [a] [] pos) σ H (Tu R ds) :=
  me_cT call_tuple_of B.tuple btTuple (ma_cons h ma_nil hs) (fun vs H1 x1 ps => by
    obtain ⟨x, rfl, q, xs, rfl, h2, h3⟩ := p1 ps
    exact fun Q k => ⟨q, xs, rfl, .inr ⟨.inl h2, k _ H1 (exr H1) ⟨q, xs, rfl, h2, h3⟩⟩⟩) hg (by decide) (by decide) hs rfl
/-- list(t) -/
theorem me_liT [m : MoR R] (B : Bl X.mg) (h : ME X a σ H (Tu R ds)) (hg : Gl X "list" := by rfl) (hs : starEach [a] X.env = (false, eval a X.env) :: starEach [] X.env := by rfl) : MN X (.Call (.Name "list" p) [a] [] pos) σ H (Li R ds) := fun H1 x1 Q k =>
  .of (pe_callTy call_list_of hg B.list btList pa_wa (by decide) (by decide) hs rfl) (ma_cons h ma_nil hs H1 x1 _ fun vs H2 x2 ps => by
    obtain ⟨x, rfl, q, xs, rfl, h2, h3⟩ := p1 ps
    exact ⟨q, xs, rfl, .inr (.inl h2), fun l hl => k l _ (Evl.fresh_back x2 hl) (x2.trans (exNew hl)) ⟨l, xs, rfl, upd_same, pImp (fun _ _ => m.mo (exNew hl)) h3⟩⟩)
/-- sorted: the one list in order -/
def srt (ns : List Int) : List Int := ns.mergeSort (fun a b => decide (a ≤ b))
theorem srt_perm (ns : List Int) : (srt ns).Perm ns := List.mergeSort_perm _ _
theorem srt_le (ns : List Int) : (srt ns).Pairwise (· ≤ ·) := by
  have h := List.pairwise_mergeSort (le := fun a b : Int => decide (a ≤ b)) (fun a b c h1 h2 => decide_eq_true (Int.le_trans (of_decide_eq_true h1) (of_decide_eq_true h2))) (fun a b => by
    rcases Int.le_total a b with h | h
    · simp [h]
    · simp [h]) ns
  exact h.imp fun h => of_decide_eq_true h
theorem srt_eq {ns ms : List Int} (p : ms.Perm ns) (s : ms.Pairwise (· ≤ ·)) : ms = srt ns :=
  (p.trans (srt_perm ns).symm).eq_of_pairwise (fun a b _ _ h1 h2 => Int.le_antisymm h1 h2) s (srt_le ns)
theorem me_sortedT {ns : List Int} (B : Bl X.mg) (h : ME X a σ H (Tu RI ns)) (hg : Gl X "sorted" := by rfl) (hs : starEach [a] X.env = (false, eval a X.env) :: starEach [] X.env := by rfl) : MN X (.Call (.Name "sorted" p) [a] [] pos) σ H (Li RI (srt ns)) := fun H1 x1 Q k =>
  .of (pe_callB crSortedT hg B.sorted btSorted pa_wa (by decide) (by decide) hs rfl) (ma_cons h ma_nil hs H1 x1 _ fun vs H2 x2 ps => by
    obtain ⟨x, rfl, t⟩ := p1 ps
    obtain ⟨q, rfl, h2⟩ := tuI.mp t
    exact ⟨q, ns, rfl, .inl h2, fun ns' l pm sr hl => k l _ (Evl.fresh_back x2 hl) (x2.trans (exNew hl)) (liI.mpr ⟨l, rfl, by rw [← srt_eq pm sr]; exact upd_same⟩)⟩)
theorem me_sortedL {ns : List Int} (B : Bl X.mg) (h : ME X a σ H (Li RI ns)) (hg : Gl X "sorted" := by rfl) (hs : starEach [a] X.env = (false, eval a X.env) :: starEach [] X.env := by rfl) : MN X (.Call (.Name "sorted" p) [a] [] pos) σ H (Li RI (srt ns)) := fun H1 x1 Q k =>
  .of (pe_callB cr_sortedI hg B.sorted btSorted pa_wa (by decide) (by decide) hs rfl) (ma_cons h ma_nil hs H1 x1 _ fun vs H2 x2 ps => by
    obtain ⟨x, rfl, t⟩ := p1 ps
    obtain ⟨q, rfl, h2⟩ := liI.mp t
    exact ⟨q, ns, rfl, SqL.of h2, fun ns' l pm sr hl => k l _ (Evl.fresh_back x2 hl) (x2.trans (exNew hl)) (liI.mpr ⟨l, rfl, by rw [← srt_eq pm sr]; exact upd_same⟩)⟩)
theorem me_all {bs : List Bool} (B : Bl X.mg) (hc : X.calm = true) (h : ME X a σ H (Li RB bs)) (hg : Gl X "all" := by rfl) (hs : starEach [a] X.env = (false, eval a X.env) :: starEach [] X.env := by rfl) : ME X (.Call (.Name "all" p) [a] [] pos) σ H (Is (.bl (bs.all id))) :=
  me_cB (cr_all hc) B.all btAll (ma_cons h ma_nil hs) (fun vs H1 x1 ps => by
    obtain ⟨x, rfl, t⟩ := p1 ps
    obtain ⟨q, rfl, h2⟩ := liB.mp t
    exact fun Q k => ⟨q, bs, rfl, SqL.of h2, k _ H1 (exr H1) rfl⟩) hg (by decide) (by decide) hs rfl
theorem me_any {bs : List Bool} (B : Bl X.mg) (hc : X.calm = true) (h : ME X a σ H (Li RB bs)) (hg : Gl X "any" := by rfl) (hs : starEach [a] X.env = (false, eval a X.env) :: starEach [] X.env := by rfl) : ME X (.Call (.Name "any" p) [a] [] pos) σ H (Is (.bl (bs.any id))) :=
  me_cB (cr_any hc) B.any btAny (ma_cons h ma_nil hs) (fun vs H1 x1 ps => by
    obtain ⟨x, rfl, t⟩ := p1 ps
    obtain ⟨q, rfl, h2⟩ := liB.mp t
    exact fun Q k => ⟨q, bs, rfl, SqL.of h2, k _ H1 (exr H1) rfl⟩) hg (by decide) (by decide) hs rfl
theorem me_sum {ns : List Int} (B : Bl X.mg) (hc : X.calm = true) (h : ME X a σ H (Li RI ns)) (hg : Gl X "sum" := by rfl) (hs : starEach [a] X.env = (false, eval a X.env) :: starEach [] X.env := by rfl) : ME X (.Call (.Name "sum" p) [a] [] pos) σ H (Is (.int ns.sum)) :=
  me_cB (cr_sum hc) B.sum btSum (ma_cons h ma_nil hs) (fun vs H1 x1 ps => by
    obtain ⟨x, rfl, t⟩ := p1 ps
    obtain ⟨q, rfl, h2⟩ := liI.mp t
    exact fun Q k => ⟨q, ns, rfl, SqL.of h2, k _ H1 (exr H1) rfl⟩) hg (by decide) (by decide) hs rfl
theorem me_min2 {i j : Int} (B : Bl X.mg) (hc : X.calm = true) (ha : ME X a σ H (Is (.int i))) (hb : ME X b σ H (Is (.int j))) (hg : Gl X "min" := by rfl)
    (hs : starEach [a, b] X.env = (false, eval a X.env) :: starEach [b] X.env := by rfl) (hs2 : starEach [b] X.env = (false, eval b X.env) :: starEach [] X.env := by rfl) (hpl : (backTo pos (starEach [b] X.env)).any (·.1) = false := by rfl) : ME X (.Call (.Name "min" p) [a, b] [] pos) σ H (Is (.int (if j < i then j else i))) :=
  me_cB (call_min2 hc) B.min btMin (ma_cons ha (ma_cons hb ma_nil hs2) hs) (fun vs H1 x1 ps => by
    obtain ⟨x, y, rfl, h1, h2⟩ := p2 ps
    have e1 : x = .int i := h1
    have e2 : y = .int j := h2
    rw [e1, e2]
    exact fun Q k => ⟨i, j, rfl, k _ H1 (exr H1) rfl⟩) hg (by decide) (by decide) hs hpl
theorem me_intB {k : Bool} (B : Bl X.mg) (h : ME X a σ H (Is (.bl k))) (hg : Gl X "int" := by rfl) (hs : starEach [a] X.env = (false, eval a X.env) :: starEach [] X.env := by rfl) : ME X (.Call (.Name "int" p) [a] [] pos) σ H (Is (.int (if k then 1 else 0))) :=
  me_cT call_int1 B.int btInt (ma_cons h ma_nil hs) (fun vs H1 x1 ps => by
    obtain ⟨x, rfl, t⟩ := p1 ps
    have e : x = .bl k := t
    rw [e]
    exact fun Q q => .inr ⟨k, rfl, q _ H1 (exr H1) rfl⟩) hg (by decide) (by decide) hs rfl
/-- isinstance(x, T) -/
theorem me_isi {T U : String} {k : Bool} {px : Pos} {x : Str} (B : Bl X.mg) (h : ME X a σ H P) [Mo P] (hm : X.mg x = none) (hv : bootBuiltins x = some (.type T)) (ty : ∀ v H1, P v H1 → TyX X.K H1 v (.type U)) (hk : kitB U T = some k) (hgx : Gl X x := by rfl) (hg : Gl X "isinstance" := by rfl)
    (hn : x ≠ "__name__" := by decide) (hd : (x == ("__debug__" : Str)) = false := by decide)
    (hs : starEach [a, .Name x px] X.env = (false, eval a X.env) :: starEach [.Name x px] X.env := by rfl) (hs2 : starEach [.Name x px] X.env = (false, eval (.Name x px) X.env) :: starEach [] X.env := by rfl) (hpl : (backTo pos (starEach [.Name x px] X.env)).any (·.1) = false := by rfl) :
    ME X (.Call (.Name "isinstance" p) [a, .Name x px] [] pos) σ H (Is (.bl k)) :=
  me_cB call_isi B.isi btIsi (ma_cons h (ma_cons (fun H1 _ Q q => .of (pe_bltn (v := .ty T) hgx hm hv rfl hn hd) (q _ H1 (exr H1) rfl) : ME X (.Name x px) σ H (Is (.ty T))) ma_nil hs2) hs) (fun vs H1 x1 ps => by
    obtain ⟨v, y, rfl, h1, h2⟩ := p2 ps
    have e2 : y = .ty T := h2
    rw [e2]
    exact fun Q q => ⟨v, .ty T, _, _, k, rfl, .ty T, ty v H1 h1, kit_ty hk, q _ H1 (exr H1) rfl⟩) hg (by decide) (by decide) hs hpl
theorem me_isInt {i : Int} {px : Pos} (B : Bl X.mg) (h : ME X a σ H (Is (.int i))) (hgx : Gl X "int" := by rfl) (hg : Gl X "isinstance" := by rfl)
    (hs : starEach [a, .Name "int" px] X.env = (false, eval a X.env) :: starEach [.Name "int" px] X.env := by rfl) (hs2 : starEach [.Name "int" px] X.env = (false, eval (.Name "int" px) X.env) :: starEach [] X.env := by rfl) (hpl : (backTo pos (starEach [.Name "int" px] X.env)).any (·.1) = false := by rfl) :
    ME X (.Call (.Name "isinstance" p) [a, .Name "int" px] [] pos) σ H (Is (.bl true)) :=
  me_isi B h B.int btInt (fun v H1 q => by
    have e : v = .int i := q
    rw [e]
    exact .base (.int i)) (U := "int") (by decide +kernel) hgx hg (by decide) (by decide) hs hs2 hpl
theorem me_isBool {i : Int} {px : Pos} (B : Bl X.mg) (h : ME X a σ H (Is (.int i))) (hgx : Gl X "bool" := by rfl) (hg : Gl X "isinstance" := by rfl)
    (hs : starEach [a, .Name "bool" px] X.env = (false, eval a X.env) :: starEach [.Name "bool" px] X.env := by rfl) (hs2 : starEach [.Name "bool" px] X.env = (false, eval (.Name "bool" px) X.env) :: starEach [] X.env := by rfl) (hpl : (backTo pos (starEach [.Name "bool" px] X.env)).any (·.1) = false := by rfl) :
    ME X (.Call (.Name "isinstance" p) [a, .Name "bool" px] [] pos) σ H (Is (.bl false)) :=
  me_isi B h B.bool btBool (fun v H1 q => by
    have e : v = .int i := q
    rw [e]
    exact .base (.int i)) (U := "int") (by decide +kernel) hgx hg (by decide) (by decide) hs hs2 hpl
theorem tyTu {v : V} {H1 : Hp} (q : Tu R ds v H1) : TyX X.K H1 v (.type "tuple") := by
  obtain ⟨a, xs, rfl, h | ⟨o, h⟩, _⟩ := q
  · exact .base (.tup h)
  · exact .fTuple h
theorem me_isTup [MoR R] {px : Pos} (B : Bl X.mg) (h : ME X a σ H (Tu R ds)) (hgx : Gl X "tuple" := by rfl) (hg : Gl X "isinstance" := by rfl)
    (hs : starEach [a, .Name "tuple" px] X.env = (false, eval a X.env) :: starEach [.Name "tuple" px] X.env := by rfl) (hs2 : starEach [.Name "tuple" px] X.env = (false, eval (.Name "tuple" px) X.env) :: starEach [] X.env := by rfl) (hpl : (backTo pos (starEach [.Name "tuple" px] X.env)).any (·.1) = false := by rfl) :
    ME X (.Call (.Name "isinstance" p) [a, .Name "tuple" px] [] pos) σ H (Is (.bl true)) :=
  me_isi B h B.tuple btTuple (fun v H1 q => tyTu q) (U := "tuple") (by decide +kernel) hgx hg (by decide) (by decide) hs hs2 hpl

/-! ### subscripts -/
theorem atPair {α : Type} {F : V → α → Prop} {xs : List V} {ds : List α} {i : Int} {d : α} (h : Paired F xs ds) (q : atI ds i = some d) : ∃ x, atI xs i = some x ∧ F x d := by
  unfold atI at q ⊢
  rw [pLen h]
  cases e : ixN ds.length i with
  | none =>
    rw [e] at q
    cases q
  | some j =>
    rw [e] at q
    exact pAt h q
theorem me_ixT [MoR R] {i : Int} {d : α} (ha : ME X a σ H (Tu R ds)) (hb : ME X b σ H (Is (.int i))) (hd : atI ds i = some d) (hs : PlainIx b := by exact fun _ _ => rfl) : ME X (.Subscript a b pos) σ H (R d) := fun H1 x1 Q q =>
  .of (pe_ix ix_tup pe_we pe_we hs) (two (P1 := Tu R ds) ha hb (R := R d) (fun x y H2 x2 p p' Q k => by
    obtain ⟨c, xs, rfl, h2, h3⟩ := p
    obtain ⟨v, h4, h5⟩ := atPair h3 hd
    exact ⟨c, xs, i, v, rfl, p', .inl h2, h4, k v H2 (exr H2) h5⟩) x1 q)
theorem me_ixL [MoR R] {i : Int} {d : α} (ha : ME X a σ H (Li R ds)) (hb : ME X b σ H (Is (.int i))) (hd : atI ds i = some d) (hs : PlainIx b := by exact fun _ _ => rfl) : ME X (.Subscript a b pos) σ H (R d) := fun H1 x1 Q q =>
  .of (pe_ix ix_list pe_we pe_we hs) (two (P1 := Li R ds) ha hb (R := R d) (fun x y H2 x2 p p' Q k => by
    obtain ⟨c, xs, rfl, h2, h3⟩ := p
    obtain ⟨v, h4, h5⟩ := atPair h3 hd
    exact ⟨c, xs, i, v, rfl, p', SqL.of h2, h4, k v H2 (exr H2) h5⟩) x1 q)
/-- the item itself, of a tuple, of a list that stands -/
theorem me_ixTV {t : Addr} {xs : List V} {i : Int} {v : V} (ha : ME X a σ H (Is (.ref t))) (hb : ME X b σ H (Is (.int i))) (ht : Rd H t (.tup xs)) (hd : atI xs i = some v) (hs : PlainIx b := by exact fun _ _ => rfl) : ME X (.Subscript a b pos) σ H (Is v) := fun H1 x1 Q q =>
  .of (pe_ix ix_tup pe_we pe_we hs) (two (P1 := Is (.ref t)) ha hb (R := Is v) (fun x y H2 x2 p p' Q k => ⟨t, xs, i, v, p, p', .inl (rdMo x2 ht), hd, k v H2 (exr H2) rfl⟩) x1 q)
theorem me_ixLV {t : Addr} {xs : List V} {i : Int} {v : V} (ha : ME X a σ H (Is (.ref t))) (hb : ME X b σ H (Is (.int i))) (ht : H t = some (.lst xs)) (hd : atI xs i = some v) (hs : PlainIx b := by exact fun _ _ => rfl) : ME X (.Subscript a b pos) σ H (Is v) := fun H1 x1 Q q =>
  .of (pe_ix ix_list pe_we pe_we hs) (two (P1 := Is (.ref t)) ha hb (R := Is v) (fun x y H2 x2 p p' Q k => ⟨t, xs, i, v, p, p', SqL.of (x2 _ _ ht), hd, k v H2 (exr H2) rfl⟩) x1 q)
/-- what a slice gives -/
def cutD {α : Type} (xs : List α) (lo hi : Option Int) : List α := (xs.drop (HT.sIx xs.length 0 lo)).take (HT.sIx xs.length xs.length hi - HT.sIx xs.length 0 lo)
theorem cutPair {α : Type} {F : V → α → Prop} {xs : List V} {ds : List α} (h : Paired F xs ds) (lo hi : Option Int) : Paired F (cutV xs lo hi) (cutD ds lo hi) := by
  unfold cutV cutD
  rw [pLen h]
  exact pTk _ (pDp _ h)
theorem cutWhole {α : Type} {xs : List α} {lo hi : Option Int} (h : HT.sIx xs.length 0 lo = 0 ∧ HT.sIx xs.length xs.length hi = xs.length) : cutD xs lo hi = xs := by
  unfold cutD
  rw [h.1, h.2]
  exact List.take_length
/-- an end of a slice -/
def MO (X : Cx) (e : Option Expr) (σ : L2.St) (H : Hp) (o : Option Int) : Prop := match e, o with
  | none, none => True
  | some e, some i => ME X e σ H (Is (.int i))
  | _, _ => False
theorem poMO {e : Option Expr} {o : Option Int} (h : MO X e σ H o) : ∃ t : TO, PO X e t ∧ ∀ H1, Ex H H1 → ∀ Q : Option Int → Hp → Prop, (∀ H2, Ex H1 H2 → Q o H2) → t σ H1 Q := by
  cases e with
  | none =>
    cases o with
    | none => exact ⟨_, po_none, fun H1 _ Q q => q H1 (exr H1)⟩
    | some i => exact h.elim
  | some e =>
    cases o with
    | none => exact h.elim
    | some i => exact ⟨_, po_some pe_we, fun H1 x1 Q q => ME.ex h x1 fun v H2 x2 p => ⟨i, p, q H2 x2⟩⟩
theorem me_slT [m : MoR R] {lo hi : Option Expr} {l u : Option Int} {p2 : Pos} (ha : ME X a σ H (Tu R ds)) (hl : MO X lo σ H l) (hu : MO X hi σ H u) : ME X (.Subscript a (.Slice lo hi none p2) pos) σ H (Tu R (cutD ds l u)) := fun H1 x1 Q q => by
  obtain ⟨t1, h1, k1⟩ := poMO hl
  obtain ⟨t2, h2, k2⟩ := poMO hu
  refine .of (pe_slice sl_tupA pe_we h1 h2) (ha H1 x1 _ fun v H2 x2 t => k1 H2 (x1.trans x2) _ fun H3 x3 => k2 H3 ((x1.trans x2).trans x3) _ fun H4 x4 => ?_)
  obtain ⟨c, xs, rfl, h3, h4⟩ := t
  have h3' := rdMo (x3.trans x4) h3
  have h4' := pImp (fun _ _ => m.mo (x3.trans x4)) h4
  have x14 := x2.trans (x3.trans x4)
  refine ⟨c, xs, rfl, .inl h3', fun z => q _ H4 x14 ⟨c, xs, rfl, h3', ?_⟩, fun _ p hp => q _ _ (x14.trans (exNew hp)) ⟨p, _, rfl, .inl upd_same, pImp (fun _ _ => m.mo (exNew hp)) (cutPair h4' l u)⟩⟩
  rw [pLen h4] at z
  rw [cutWhole z]
  exact h4'
theorem cut_take {α : Type} (xs : List α) (k : Nat) : cutD xs none (some (k : Int)) = xs.take k := by
  unfold cutD
  rw [HT.sIx_none, HT.sIx_nat, List.drop_zero, Nat.sub_zero]
  rcases Nat.le_total k xs.length with h | h
  · rw [Nat.min_eq_left h]
  · rw [Nat.min_eq_right h, List.take_length, List.take_of_length_le h]
theorem cut_drop {α : Type} (xs : List α) (k : Nat) : cutD xs (some (k : Int)) none = xs.drop k := by
  unfold cutD
  rw [HT.sIx_none, HT.sIx_nat]
  rcases Nat.le_total k xs.length with h | h
  · rw [Nat.min_eq_left h, List.take_of_length_le (by rw [List.length_drop]; exact Nat.le_refl _)]
  · rw [Nat.min_eq_right h, Nat.sub_self, List.take_zero, List.drop_of_length_le h]

/-! ### displays, sums of tuples -/
/-- a new tuple, a new list of these -/
def TuP (Ps : List Pv) : Pv := fun v H => ∃ (a : Addr) (xs : List V), v = .ref a ∧ H a = some (.tup xs) ∧ Paired (fun x P => P x H) xs Ps
def LiP (Ps : List Pv) : Pv := fun v H => ∃ (a : Addr) (xs : List V), v = .ref a ∧ H a = some (.lst xs) ∧ Paired (fun x P => P x H) xs Ps
/-- all of them grow along -/
def MoAll (Ps : List Pv) : Prop := ∀ P ∈ Ps, ∀ {v : V} {H H' : Hp}, Ex H H' → P v H → P v H'
theorem pMo {Ps : List Pv} {H H' : Hp} (x : Ex H H') : ∀ {xs : List V} {Qs : List Pv}, (∀ P ∈ Qs, P ∈ Ps) → MoAll Ps → Paired (fun x P => P x H) xs Qs → Paired (fun x P => P x H') xs Qs
  | _, _, _, _, .nil => .nil
  | _, _, s, m, .cons r t => .cons (m _ (s _ List.mem_cons_self) x r) (pMo x (fun P h => s P (List.mem_cons_of_mem _ h)) m t)
theorem moNil : MoAll [] := fun P h => nomatch h
theorem moCons {P : Pv} {Ps : List Pv} [m : Mo P] (h : MoAll Ps) : MoAll (P :: Ps) := fun Q hQ {v H H'} x r => by
  rcases List.mem_cons.mp hQ with e | e
  · rw [e] at r ⊢
    exact m.mo x r
  · exact h Q e x r
theorem mn_tup {Ps : List Pv} {k : Nat} (h : MA X es σ H Ps) (m : MoAll Ps) (hl : Ps.length ≤ 1000) : MN X (.Tuple es k pos) σ H (TuP Ps) := fun H1 x1 Q q =>
  .of (pe_tup pa_wa) (h H1 x1 _ fun vs H2 x2 ps => ⟨by rw [pLen ps]; exact sq1000 hl, fun p hp => q p _ (Evl.fresh_back x2 hp) (x2.trans (exNew hp)) ⟨p, vs, rfl, upd_same, pMo (exNew hp) (fun _ h => h) m ps⟩⟩)
theorem mn_lst {Ps : List Pv} (h : MA X es σ H Ps) (m : MoAll Ps) (hl : Ps.length ≤ 1000) : MN X (.List es pos) σ H (LiP Ps) := fun H1 x1 Q q =>
  .of (pe_lst pa_wa) (h H1 x1 _ fun vs H2 x2 ps => ⟨by rw [pLen ps]; exact sq1000 hl, fun p hp => q p _ (Evl.fresh_back x2 hp) (x2.trans (exNew hp)) ⟨p, vs, rfl, upd_same, pMo (exNew hp) (fun _ h => h) m ps⟩⟩)
theorem pMap {R : Rp α} {H : Hp} : ∀ {xs : List V} {ds : List α}, Paired (fun x P => P x H) xs (ds.map R) → Paired (fun x d => R d x H) xs ds
  | _, [], h => by
    cases h
    exact .nil
  | _, d :: ds, h => by
    cases h with
    | cons r t => exact .cons r (pMap t)
theorem TuP.tu {v : V} {H : Hp} (h : TuP (ds.map R) v H) : Tu R ds v H := by
  obtain ⟨a, xs, h1, h2, h3⟩ := h
  exact ⟨a, xs, h1, .inl h2, pMap h3⟩
theorem LiP.li {v : V} {H : Hp} (h : LiP (ds.map R) v H) : Li R ds v H := by
  obtain ⟨a, xs, h1, h2, h3⟩ := h
  exact ⟨a, xs, h1, h2, pMap h3⟩
theorem MN.imp {P2 : Pv} (h : MN X e σ H P) (k : ∀ v H', P v H' → P2 v H') : MN X e σ H P2 := fun H1 x1 Q q => h H1 x1 Q fun a H2 n x2 p => q a H2 n x2 (k _ _ p)
theorem me_cat [m : MoR R] {es' : List α} (ha : ME X a σ H (Tu R ds)) (hb : ME X b σ H (Tu R es')) (hz : ds.length + es'.length ≤ 1000) : ME X (.BinOp a .Add b pos) σ H (Tu R (ds ++ es')) :=
  me_op op_catA ha hb fun x y H1 x1 t u Q q => by
    obtain ⟨c, xs, rfl, h1, h2⟩ := t
    obtain ⟨d, ys, rfl, h3, h4⟩ := u
    refine ⟨c, d, xs, ys, rfl, rfl, .inl h1, .inl h3, by rw [pLen h2, pLen h4]; exact sq1000 hz, fun e => ?_, fun _ e => ?_, fun _ _ p hp => ?_⟩
    · subst e
      cases h2
      exact q _ H1 (exr H1) ⟨d, ys, rfl, h3, h4⟩
    · subst e
      cases h4
      exact q _ H1 (exr H1) ⟨c, xs, rfl, h1, by rw [List.append_nil]; exact h2⟩
    · exact q _ _ (exNew hp) ⟨p, _, rfl, .inl upd_same, pImp (fun _ _ => m.mo (exNew hp)) (pApp h2 h4)⟩

/-! ### == and != of data, in -/
structure EncOk {α : Type} [DecidableEq α] (R : Rp α) (f : α → PyData) (k : Nat) : Prop where
  dp : ∀ (K : PySem.W.Frag) {d : α} {v : V} {H : Hp}, R d v H → Dp K H v (f d)
  lay : ∀ d, (f d).canLay0 = true
  dep : ∀ d, (f d).depth ≤ k
  eqv : ∀ d e, PyData.eqv (f d) (f e) = decide (d = e)
theorem EncOk.shaped {α : Type} [DecidableEq α] {R : Rp α} {f : α → PyData} {k : Nat} (h : EncOk R f k) (hk : k ≤ 64) (d : α) : SeqAt.shaped (f d) = true := by
  have := h.dep d
  show ((f d).canLay0 && decide ((f d).depth ≤ 64)) = true
  rw [h.lay d, decide_eq_true (by omega)]
  rfl
theorem enc_int : EncOk RI .int 0 := ⟨fun K {d v H} h => by
  have e : v = .int d := h
  rw [e]
  exact .int d, fun d => by simp [PyData.canLay0], fun d => by simp [PyData.depth], fun d e => by
  simp only [PyData.eqv]
  by_cases h : d = e
  · subst h
    simp
  · simp [h]⟩
theorem dpAll {α : Type} [DecidableEq α] {R : Rp α} {f : α → PyData} {k : Nat} (h : EncOk R f k) (K : PySem.W.Frag) {H : Hp} : ∀ {xs : List V} {ds : List α}, Paired (fun x d => R d x H) xs ds → DpAll K H xs (ds.map f)
  | _, _, .nil => .nil
  | _, _, .cons r t => .cons (h.dp K r) (dpAll h K t)
theorem layAll {α : Type} [DecidableEq α] {R : Rp α} {f : α → PyData} {k : Nat} (h : EncOk R f k) : ∀ ds : List α, PyData.canLayAll0 (ds.map f) = true
  | [] => by simp [PyData.canLayAll0]
  | d :: ds => by simp [PyData.canLayAll0, h.lay d, layAll h ds]
theorem depAll {α : Type} [DecidableEq α] {R : Rp α} {f : α → PyData} {k : Nat} (h : EncOk R f k) : ∀ ds : List α, PyData.depthAll (ds.map f) ≤ k
  | [] => by simp [PyData.depthAll]
  | d :: ds => by
    have a := h.dep d
    have b := depAll h ds
    simp only [List.map_cons, PyData.depthAll]
    omega
theorem eqvAll' {α : Type} [DecidableEq α] {R : Rp α} {f : α → PyData} {k : Nat} (h : EncOk R f k) : ∀ ds es : List α, PyData.eqvAll (ds.map f) (es.map f) = decide (ds = es)
  | [], [] => by simp [PyData.eqvAll]
  | [], e :: es => by simp [PyData.eqvAll]
  | d :: ds, [] => by simp [PyData.eqvAll]
  | d :: ds, e :: es => by
    simp only [List.map_cons, PyData.eqvAll, h.eqv, eqvAll' h ds es]
    by_cases h1 : d = e
    · by_cases h2 : ds = es
      · simp [h1, h2]
      · simp [h1, h2]
    · simp [h1]
theorem enc_tu {α : Type} [DecidableEq α] {R : Rp α} {f : α → PyData} {k : Nat} (h : EncOk R f k) : EncOk (Tu R) (fun ds => .tuple (ds.map f)) (k + 1) := ⟨fun K {d v H} ⟨a, xs, h1, h2, h3⟩ => by
  rw [h1]
  exact .tup (.inl h2) (dpAll h K h3), fun d => by simp only [PyData.canLay0]; exact layAll h d, fun d => by
  have := depAll h d
  simp only [PyData.depth]
  omega, fun d e => by simp only [PyData.eqv]; exact eqvAll' h d e⟩
theorem enc_li {α : Type} [DecidableEq α] {R : Rp α} {f : α → PyData} {k : Nat} (h : EncOk R f k) : EncOk (Li R) (fun ds => .list (ds.map f)) (k + 1) := ⟨fun K {d v H} ⟨a, xs, h1, h2, h3⟩ => by
  rw [h1]
  exact .lst (SqL.of h2) (dpAll h K h3), fun d => by simp only [PyData.canLay0]; exact layAll h d, fun d => by
  have := depAll h d
  simp only [PyData.depth]
  omega, fun d e => by simp only [PyData.eqv]; exact eqvAll' h d e⟩
section
variable [DecidableEq α] {f : α → PyData} {k : Nat} {d d' : α}
theorem mr_eqD (h : EncOk R f k) (hk : k ≤ 64) {x y : V} (p : R d x H) (q : R d' y H) : MR (rEqD X.K) x y H (Is (.bl (decide (d = d')))) := fun Q z =>
  ⟨f d, f d', h.dp _ p, h.dp _ q, h.shaped hk d, h.shaped hk d', z _ H (exr H) (by rw [h.eqv]; rfl)⟩
theorem mr_neD (h : EncOk R f k) (hk : k ≤ 64) {x y : V} (p : R d x H) (q : R d' y H) : MR (rNeD X.K) x y H (Is (.bl (!decide (d = d')))) := fun Q z =>
  ⟨f d, f d', h.dp _ p, h.dp _ q, h.shaped hk d, h.shaped hk d', z _ H (exr H) (by rw [h.eqv]; rfl)⟩
theorem me_eqD [MoR R] (h : EncOk R f k) (hu : X.A.units + 64 < cLine) (ha : ME X a σ H (R d)) (hb : ME X b σ H (R d')) (hk : k ≤ 64 := by decide) (hm : behindInMarks .Eq b = false := by exact nomark _) : ME X (.Compare a [.Eq] [b] pos) σ H (Is (.bl (decide (d = d')))) :=
  me_cmp (op_eqD hu) hm ha hb fun x y H1 x1 p q => mr_eqD h hk p q
theorem mt_eqD [MoR R] (h : EncOk R f k) (hu : X.A.units + 64 < cLine) (ha : ME X a σ H (R d)) (hb : ME X b σ H (R d')) (hk : k ≤ 64 := by decide) (hm : behindInMarks .Eq b = false := by exact nomark _) : MT X (.Compare a [.Eq] [b] pos) σ H (decide (d = d')) :=
  mt_cmp (op_eqD hu) hm ha hb fun x y H1 x1 p q => mr_eqD h hk p q
theorem mt_neD [MoR R] (h : EncOk R f k) (hu : X.A.units + 64 < cLine) (ha : ME X a σ H (R d)) (hb : ME X b σ H (R d')) (hk : k ≤ 64 := by decide) (hm : behindInMarks .NotEq b = false := by exact nomark _) : MT X (.Compare a [.NotEq] [b] pos) σ H (!decide (d = d')) :=
  mt_cmp (op_neD hu) hm ha hb fun x y H1 x1 p q => mr_neD h hk p q
end
abbrev encT := enc_tu enc_int
abbrev encL := enc_li enc_int
theorem inV_int (n : Int) : ∀ ns : List Int, inV (.int n) (ns.map V.int) = decide (n ∈ ns)
  | [] => by simp [inV]
  | m :: ns => by
    have ih := inV_int n ns
    unfold inV at ih ⊢
    rw [List.map_cons, List.any_cons, ih]
    have e : eqV (V.int m) (V.int n) = decide (m = n) := by first | rfl | simp [eqV]
    rw [e]
    by_cases h : m = n
    · subst h
      simp
    · have h' : ¬ n = m := fun q => h q.symm
      simp [h, h']
theorem flatInts (ns : List Int) : (ns.map V.int).all flatV = true := by
  rw [List.all_eq_true]
  intro x hx
  obtain ⟨n, _, rfl⟩ := List.mem_map.mp hx
  rfl
section
variable {n : Int} {ns : List Int}
theorem me_inT (ha : ME X a σ H (Is (.int n))) (hb : ME X b σ H (Tu RI ns)) (hm : behindInMarks .In b = false := by rfl) : ME X (.Compare a [.In] [b] pos) σ H (Is (.bl (decide (n ∈ ns)))) :=
  me_cmp op_in_seq hm ha hb fun x y H1 x1 p q Q z => by
    obtain ⟨c, rfl, h⟩ := tuI.mp q
    have e : x = .int n := p
    rw [e]
    exact ⟨c, _, rfl, .inr (.inl h), rfl, flatInts ns, z _ H1 (exr H1) (by rw [inV_int]; rfl)⟩
theorem mt_inT (ha : ME X a σ H (Is (.int n))) (hb : ME X b σ H (Tu RI ns)) (hm : behindInMarks .In b = false := by rfl) : MT X (.Compare a [.In] [b] pos) σ H (decide (n ∈ ns)) :=
  mt_cmp op_in_seq hm ha hb fun x y H1 x1 p q Q z => by
    obtain ⟨c, rfl, h⟩ := tuI.mp q
    have e : x = .int n := p
    rw [e]
    exact ⟨c, _, rfl, .inr (.inl h), rfl, flatInts ns, z _ H1 (exr H1) (by rw [inV_int]; rfl)⟩
theorem mt_inL (ha : ME X a σ H (Is (.int n))) (hb : ME X b σ H (Li RI ns)) (hm : behindInMarks .In b = false := by rfl) : MT X (.Compare a [.In] [b] pos) σ H (decide (n ∈ ns)) :=
  mt_cmp op_in_seq hm ha hb fun x y H1 x1 p q Q z => by
    obtain ⟨c, rfl, h⟩ := liI.mp q
    have e : x = .int n := p
    rw [e]
    exact ⟨c, _, rfl, .inl (SqL.of h), rfl, flatInts ns, z _ H1 (exr H1) (by rw [inV_int]; rfl)⟩
theorem me_niT (ha : ME X a σ H (Is (.int n))) (hb : ME X b σ H (Tu RI ns)) (hm : behindInMarks .NotIn b = false := by rfl) : ME X (.Compare a [.NotIn] [b] pos) σ H (Is (.bl (!decide (n ∈ ns)))) :=
  me_cmp op_notIn_seq hm ha hb fun x y H1 x1 p q Q z => by
    obtain ⟨c, rfl, h⟩ := tuI.mp q
    have e : x = .int n := p
    rw [e]
    exact ⟨c, _, rfl, .inr (.inl h), rfl, flatInts ns, z _ H1 (exr H1) (by rw [inV_int]; rfl)⟩
theorem mt_niT (ha : ME X a σ H (Is (.int n))) (hb : ME X b σ H (Tu RI ns)) (hm : behindInMarks .NotIn b = false := by rfl) : MT X (.Compare a [.NotIn] [b] pos) σ H (!decide (n ∈ ns)) :=
  mt_cmp op_notIn_seq hm ha hb fun x y H1 x1 p q Q z => by
    obtain ⟨c, rfl, h⟩ := tuI.mp q
    have e : x = .int n := p
    rw [e]
    exact ⟨c, _, rfl, .inr (.inl h), rfl, flatInts ns, z _ H1 (exr H1) (by rw [inV_int]; rfl)⟩
end
/-- x in xs, a list of data -/
theorem mt_inD [DecidableEq α] [MoR R] {f : α → PyData} {k : Nat} {d : α} (h : EncOk R f k) (hu : X.A.units + 65 < cLine) (ha : ME X a σ H (R d)) (hb : ME X b σ H (Li R ds)) (hk : k ≤ 60 := by decide) (hm : behindInMarks .In b = false := by rfl) : MT X (.Compare a [.In] [b] pos) σ H (decide (d ∈ ds)) :=
  mt_cmp (op_inD hu) hm ha hb fun x y H1 x1 p q Q z => by
    refine ⟨f d, ds.map f, h.dp _ p, (enc_li h).dp _ q, h.shaped (by omega) d, (enc_li h).shaped (by omega) ds, z _ H1 (exr H1) ?_⟩
    have e : ((ds.map f).any fun z => PyData.eqv z (f d)) = decide (d ∈ ds) := by
      rw [List.any_map]
      have e2 : ((fun z => PyData.eqv z (f d)) ∘ f) = fun x => decide (x = d) := funext fun x => h.eqv x d
      rw [e2]
      by_cases hm : d ∈ ds
      · rw [decide_eq_true hm, List.any_eq_true]
        exact ⟨d, hm, decide_eq_true rfl⟩
      · rw [decide_eq_false hm, List.any_eq_false]
        intro x hx hq
        exact hm (of_decide_eq_true hq ▸ hx)
    show Is _ (V.bl _) _
    rw [e]
    rfl
end
end Wk
set_option Elab.async false
set_option linter.all false
set_option maxRecDepth 100000
set_option maxHeartbeats 4000000
/-! len(set(..)) of unlike ints; a tuple whose object is known, and its index. -/
namespace Wk
open PySem PySem.Spec PyProof.Rows L2
/-- a set of unlike ints has as many as they are -/
theorem setSize {w : World} {h : Heap} {a : Addr} {ns : List Int} {c : Nat} (hn : ns.Nodup) (r : SetR w h a (fun j => decide (j ∈ ns)) c) : ∃ o es ep t, h.get? a = some o ∧ o.ExactSet ∧ o.data = .set es ep t ∧ t.fits es.size = true ∧ es.size = ns.length := by
  obtain ⟨o, es, ep, t, ho, hex, hd, _, nd, mem, _, hf, _, _⟩ := r
  refine ⟨o, es, ep, t, ho, hex, hd, hf, ?_⟩
  have pm : (es.toList.map keyOf).Perm ns := (List.perm_ext_iff_of_nodup nd hn).mpr fun k => by
    rw [← mem k]
    exact decide_eq_true_iff
  rw [← pm.length_eq, List.length_map, Array.length_toList]
section
variable {X : Cx} {e a b : Expr} {σ : L2.St} {H : Hp} {pos p q p2 : Pos} {ns : List Int}
/-- len(set(t)), t a tuple of unlike ints -/
theorem me_lsT (B : Bl X.mg) (hc : X.calm = true) (h : ME X a σ H (Tu RI ns)) (hn : ns.Nodup) (hl : ns.length ≤ 1000) (hg : Gl X "len" := by rfl) (hg2 : Gl X "set" := by rfl) (na : starEach [a] X.env = (false, eval a X.env) :: starEach [] X.env := by rfl) :
    ME X (.Call (.Name "len" p) [.Call (.Name "set" p2) [a] [] q] [] pos) σ H (Is (.int ns.length)) := fun H1 x1 Q k => by
  refine ⟨fun pins s I => ?_⟩
  refine Call_ (ld_blt I hg B.len boot_len ?_)
  refine PyProof.Rows.callWith_builtin1 (PyProof.Rows.args_cons ?_ rfl) rfl rfl
  refine Call_ (ld_blt I hg2 B.set PyProof.Rows.boot_set ?_)
  refine PyProof.Rows.callWith_type1 (PyProof.Rows.args_cons (thn ((h H1 x1 (fun v H2 => Ex H1 H2 ∧ Tu RI ns v H2) (fun v H2 x2 t => ⟨x2, t⟩)).run pins s I) fun v s1 ⟨x, H2, I2, r2, x2, t⟩ => PyProof.Rows.args_nil ?_) na) na rfl
  obtain ⟨c, rfl, hq⟩ := tuI.mp t
  cases r2
  obtain ⟨its, r, pl, hz⟩ := I2.tuple (.inl hq)
  have hi := r.ints
  have small : ns.length + 1 < scanBound := by
    unfold scanBound
    omega
  refine call_set_tupI ns (I2.ok.hd hc) (show s1.heap.IsTuple c its.toArray from pl) (by simpa using hi) small fun h' tk n R1 hcn hk => ?_
  obtain ⟨o, es, ep, tb, ho, hex, hd, hf, hsz⟩ := setSize hn R1
  exact PyProof.Rows.args_nil (call_len_set ho hex hd hf (by rw [hsz]; omega) ⟨.int ns.length, H2, (I2.kept (t' := tk) hk).tok _, ⟨_, by rw [hsz]⟩, k _ H2 x2 rfl⟩)
/-- .. a list -/
theorem me_lsL (B : Bl X.mg) (hc : X.calm = true) (h : ME X a σ H (Li RI ns)) (hn : ns.Nodup) (hl : ns.length ≤ 1000) (hg : Gl X "len" := by rfl) (hg2 : Gl X "set" := by rfl) (na : starEach [a] X.env = (false, eval a X.env) :: starEach [] X.env := by rfl) :
    ME X (.Call (.Name "len" p) [.Call (.Name "set" p2) [a] [] q] [] pos) σ H (Is (.int ns.length)) := fun H1 x1 Q k =>
  .of (RZ.pe_lenSetI hg B.len hg2 B.set pe_we hc na) (h H1 x1 _ fun v H2 x2 t => by
    obtain ⟨c, rfl, hq⟩ := liI.mp t
    exact ⟨c, ns, rfl, SqL.of hq, hn, by omega, k _ H2 x2 rfl⟩)

/-! ### tuples whose object is known -/
/-- a tuple of ints, its object without a dict -/
def TuK : Rp (List Int) := fun ns v H => ∃ (a : Addr) (o : Obj), v = .ref a ∧ o.dict = none ∧ H a = some (.frz o (.tup (ns.map V.int)))
instance : MoR TuK := ⟨fun x ⟨a, o, h1, h2, h3⟩ => ⟨a, o, h1, h2, x _ _ h3⟩⟩
theorem TuK.tu {v : V} {H : Hp} (h : TuK ns v H) : Tu RI ns v H := by
  obtain ⟨a, o, h1, h2, h3⟩ := h
  exact tuI.mpr ⟨a, h1, .inr ⟨o, h3⟩⟩

/-! ### a tuple that stands, by its items -/
theorem me_lenV {t : Addr} {xs : List V} (B : Bl X.mg) (h : ME X a σ H (Is (.ref t))) (ht : Rd H t (.tup xs)) (hg : Gl X "len" := by rfl) (hs : starEach [a] X.env = (false, eval a X.env) :: starEach [] X.env := by rfl) : ME X (.Call (.Name "len" p) [a] [] pos) σ H (Is (.int xs.length)) :=
  me_cB call_len_seq B.len btLen (ma_cons h ma_nil hs) (fun vs H1 x1 ps => by
    obtain ⟨x, rfl, e⟩ := p1 ps
    have e' : x = V.ref t := e
    rw [e']
    exact fun Q k => ⟨t, xs, rfl, .inr (.inl (rdMo x1 ht)), k _ H1 (exr H1) rfl⟩) hg (by decide) (by decide) hs rfl
instance : MoR (fun (v : V) (u : V) (_ : Hp) => u = v) := ⟨fun _ h => h⟩
theorem me_isTupV {t : Addr} {xs : List V} {px : Pos} (B : Bl X.mg) (h : ME X a σ H (Is (.ref t))) (ht : Rd H t (.tup xs)) (hgx : Gl X "tuple" := by rfl) (hg : Gl X "isinstance" := by rfl)
    (hs : starEach [a, .Name "tuple" px] X.env = (false, eval a X.env) :: starEach [.Name "tuple" px] X.env := by rfl) (hs2 : starEach [.Name "tuple" px] X.env = (false, eval (.Name "tuple" px) X.env) :: starEach [] X.env := by rfl) (hpl : (backTo pos (starEach [.Name "tuple" px] X.env)).any (·.1) = false := by rfl) :
    ME X (.Call (.Name "isinstance" p) [a, .Name "tuple" px] [] pos) σ H (Is (.bl true)) :=
  me_isTup (R := fun v u _ => u = v) (ds := xs) B (h.imp fun v H1 x1 e => by
    have e' : v = V.ref t := e
    have all : ∀ l : List V, Paired (fun (x : V) (d : V) => x = d) l l := fun l => by
      induction l with
      | nil => exact .nil
      | cons z l ih => exact .cons rfl ih
    exact ⟨t, xs, e', rdMo x1 ht, all xs⟩) hgx hg hs hs2 hpl
/-! ### what changes a list -/
variable {o : Expr} {t : Addr} {xs : List V} {apos : Pos} {Q : VK}
theorem tyList (h : H t = some (.lst xs)) : tyV X.K "list" (.ref t) H := .inl ⟨rfl, _, SqL.of h⟩
/-- xs.append(e) -/
theorem we_append {P : Pv} (ht : H t = some (.lst xs)) (ho : ME X o σ H (Is (.ref t))) (ha : ME X e σ H P) (hz : xs.length ≤ 1000) (q : ∀ v H2, Ex H H2 → P v H2 → Q .non (upd H2 t (.lst (xs ++ [v]))))
    (hbase : attributeBase o "append" X.env (eval o X.env) = eval o X.env := by rfl)
    (hfew : ((backTo pos (starEach [e] X.env)).all (fun x => !x.1) && (backToKw pos (keywordEach [] X.env)).all (fun x => x.1.isSome) && decide ([e].length + ([] : List Keyword).length + (if ([] : List Keyword).isEmpty then 0 else 1) < 30)) = true := by rfl)
    (hline : (apos.endLine == pos.line) = true := by rfl) (hs : starEach [e] X.env = (false, eval e X.env) :: starEach [] X.env := by rfl) (hplain : (backTo pos (starEach [] X.env)).any (·.1) = false := by rfl) : WE X (.Call (.Attribute o "append" apos) [e] [] pos) σ H Q :=
  .of (pe_bm PySem.F.plainAttrs_list PySem.F.slot_list_append PySem.F.type_list_append mt_append pe_we (pa_cons pe_we pa_nil hs) hbase hfew hline hs hplain) (ho.we fun x H1 x1 p => by
    have e1 : x = .ref t := p
    rw [e1]
    exact ⟨tyList (x1 _ _ ht), ha.ex x1 fun v H2 x2 r => ⟨t, xs, v, rfl, rfl, x2 _ _ (x1 _ _ ht), Nat.lt_of_le_of_lt hz (small1000 (Nat.le_refl _)), q v H2 (x1.trans x2) r⟩⟩)
/-- xs.extend(t), t a tuple | a list -/
theorem we_extT {α : Type} {S : Rp α} {ds : List α} (ht : H t = some (.lst xs)) (ho : ME X o σ H (Is (.ref t))) (ha : ME X e σ H (Tu S ds)) (hz : xs.length + ds.length ≤ 1000) (q : ∀ ys H2, Ex H H2 → Paired (fun x d => S d x H2) ys ds → Q .non (upd H2 t (.lst (xs ++ ys))))
    (hbase : attributeBase o "extend" X.env (eval o X.env) = eval o X.env := by rfl)
    (hfew : ((backTo pos (starEach [e] X.env)).all (fun x => !x.1) && (backToKw pos (keywordEach [] X.env)).all (fun x => x.1.isSome) && decide ([e].length + ([] : List Keyword).length + (if ([] : List Keyword).isEmpty then 0 else 1) < 30)) = true := by rfl)
    (hline : (apos.endLine == pos.line) = true := by rfl) (hs : starEach [e] X.env = (false, eval e X.env) :: starEach [] X.env := by rfl) (hplain : (backTo pos (starEach [] X.env)).any (·.1) = false := by rfl) : WE X (.Call (.Attribute o "extend" apos) [e] [] pos) σ H Q :=
  .of (pe_bm PySem.F.plainAttrs_list PySem.F.slot_list_extend PySem.F.type_list_extend mt_extendT pe_we (pa_cons pe_we pa_nil hs) hbase hfew hline hs hplain) (ho.we fun x H1 x1 p => by
    have e1 : x = .ref t := p
    rw [e1]
    refine ⟨tyList (x1 _ _ ht), ha.ex x1 fun v H2 x2 r => ?_⟩
    obtain ⟨b, ys, rfl, hb, hp⟩ := r
    exact ⟨t, b, xs, ys, rfl, rfl, x2 _ _ (x1 _ _ ht), .inl hb, by rw [pLen hp]; exact sq1000 hz, q ys H2 (x1.trans x2) hp⟩)
theorem we_extL {α : Type} {S : Rp α} {ds : List α} (ht : H t = some (.lst xs)) (ho : ME X o σ H (Is (.ref t))) (ha : ME X e σ H (Li S ds)) (hz : xs.length + ds.length ≤ 1000) (q : ∀ ys H2, Ex H H2 → Paired (fun x d => S d x H2) ys ds → Q .non (upd H2 t (.lst (xs ++ ys))))
    (hbase : attributeBase o "extend" X.env (eval o X.env) = eval o X.env := by rfl)
    (hfew : ((backTo pos (starEach [e] X.env)).all (fun x => !x.1) && (backToKw pos (keywordEach [] X.env)).all (fun x => x.1.isSome) && decide ([e].length + ([] : List Keyword).length + (if ([] : List Keyword).isEmpty then 0 else 1) < 30)) = true := by rfl)
    (hline : (apos.endLine == pos.line) = true := by rfl) (hs : starEach [e] X.env = (false, eval e X.env) :: starEach [] X.env := by rfl) (hplain : (backTo pos (starEach [] X.env)).any (·.1) = false := by rfl) : WE X (.Call (.Attribute o "extend" apos) [e] [] pos) σ H Q :=
  .of (pe_bm PySem.F.plainAttrs_list PySem.F.slot_list_extend PySem.F.type_list_extend mt_extend pe_we (pa_cons pe_we pa_nil hs) hbase hfew hline hs hplain) (ho.we fun x H1 x1 p => by
    have e1 : x = .ref t := p
    rw [e1]
    refine ⟨tyList (x1 _ _ ht), ha.ex x1 fun v H2 x2 r => ?_⟩
    obtain ⟨b, ys, rfl, hb, hp⟩ := r
    exact ⟨t, b, xs, ys, rfl, rfl, x2 _ _ (x1 _ _ ht), hb, by rw [pLen hp]; exact sq1000 hz, q ys H2 (x1.trans x2) hp⟩)
end
end Wk
set_option Elab.async false
set_option linter.all false
set_option maxRecDepth 100000
namespace Wk
open PySem PySem.Spec PyProof.Rows L2
/-! ### the text by places -/
def top (i : Nat) : Stmt := PySem.Challenge.pw_warpkeep_k64_whole_each_asks_alone.main.body.getD i (.Pass ⟨0, 0, 0, 0⟩)
abbrev sNotsureInit : Stmt := inClass (top 10) 0
abbrev sIsAmong : Stmt := top 14
abbrev sIsThread : Stmt := top 15
abbrev sIsOrder : Stmt := top 16
abbrev sAllThreads : Stmt := top 20
abbrev sAreApart : Stmt := top 21
abbrev sIsCross : Stmt := top 22
abbrev sAreBundles : Stmt := top 23
abbrev sIsKept : Stmt := top 24
abbrev sNeedOrder : Stmt := top 25
abbrev sNeedKept : Stmt := top 26
abbrev sIsOnSticks : Stmt := top 27
abbrev sIsInBundles : Stmt := top 28
abbrev sFits : Stmt := top 29
abbrev sLeftOf : Stmt := top 30
abbrev sIsLed : Stmt := top 34
abbrev sIsThreaded : Stmt := top 35
abbrev sThreadsIn : Stmt := top 38
abbrev sIsReeded : Stmt := top 39
abbrev sNeedThread : Stmt := top 41
abbrev sNeedDents : Stmt := top 42
abbrev sNeedEyes : Stmt := top 43
abbrev sKeptWithout : Stmt := top 44
abbrev sFitsDents : Stmt := top 45
abbrev sFitsEyes : Stmt := top 46
abbrev sPlacesIn : Stmt := top 47
abbrev sNeedOthers : Stmt := top 48
abbrev sNeedTold : Stmt := top 49
abbrev sPlaces : Stmt := top 50
abbrev sRenamed : Stmt := top 51
abbrev sTied : Stmt := top 53
abbrev sBitsOf : Stmt := top 57
abbrev sFittingInit : Stmt := inClass (top 58) 0
abbrev sFittingLayStick : Stmt := inClass (top 58) 1
abbrev sFittingLayBundles : Stmt := inClass (top 58) 2
abbrev sFittingNextSpots : Stmt := inClass (top 58) 3
abbrev sFittingBegun : Stmt := inClass (top 58) 4
abbrev sFittingCountOn : Stmt := inClass (top 58) 5
abbrev sFittingMany : Stmt := inClass (top 58) 6
abbrev sFittingGoneOn : Stmt := inClass (top 58) 7
abbrev sFittingRowsBetween : Stmt := inClass (top 58) 10
abbrev sFitting : Stmt := top 59
abbrev sFirstIn : Stmt := top 60
abbrev sOrders : Stmt := top 61
abbrev sToldOrder : Stmt := top 62
abbrev sLawCell : Stmt := top 64
abbrev sLawOrder : Stmt := top 65
abbrev sLawTurned : Stmt := top 66
abbrev sLawKept : Stmt := top 67
abbrev sLawReeded : Stmt := top 68
abbrev sLawThreaded : Stmt := top 69
abbrev sLawOrders : Stmt := top 70
abbrev sLawTold : Stmt := top 71
abbrev sLawKeptRight : Stmt := top 72
abbrev sLaw : Stmt := top 73
end Wk
set_option Elab.async false
set_option linter.all false
set_option maxRecDepth 100000
set_option maxHeartbeats 4000000
/-! Each def keeps its promise: threads, orders. -/
namespace Wk
open PySem PySem.Spec PyProof.Rows L2

section
variable {P : Program} {w : World} {K : PySem.W.Frag} {mg : Str → Option Value} {base : Heap}
/-- a def of the module as it stands -/
structure Df (K : PySem.W.Frag) (mg : Str → Option Value) (x : Str) (st : Stmt) : Prop where
  ex : ∃ (f : Addr) (fd : FuncData), FunD K x x (defArgs st) (defBody st) (defScope st) [] [] f fd ∧ mg x = some (.ref f)
/-- how its arguments are bound -/
abbrev Bnd (x : Str) (st : Stmt) (ps : List Str) : Prop := ∀ (kV doc pm : Value) (an : Option Addr) (cdv ct : Value) (us : List Value), us.length = ps.length → bindArgs (PySem.W.fnOf x x (defArgs st) (defBody st) (defScope st) .none kV doc pm an cdv ct) ⟨us, []⟩ = pure (ps.zip us)
abbrev cx0 (P : Program) (w : World) (K : PySem.W.Frag) (mg : Str → Option Value) (base : Heap) (N : List Str) (x : Str) (st : Stmt) (f : Addr) (cdv : Value) (A : Around) (outer : List Env) (s : Shared) (H : Hp) (E : XK) : Cx := (cxOf CX0 P w K mg base N x (defScope st) f cdv A outer s H E).nox
theorem Has.mk' {x : Str} {st : Stmt} {N ps : List Str} {k : Nat} {sp : Sp} (D : Df K mg x st) (S : FnScope N ps (defScope st)) (bn : Bnd x st ps) (len : ∀ vs H Q E, sp vs H Q E → vs.length = ps.length)
    (body : ∀ (f : Addr) (cdv : Value) (A : Around) (outer : List Env) (s : Shared) (H : Hp) (vs : List V) (Q : VK) (E : XK), Room k (A.deeper (envOfC x (defScope st) s.heap.objs.size f cdv)) → sp vs H Q E →
      WSs (cx0 P w K mg base N x st f cdv A outer s H E) (defBody st) { nx := fun _ H' => Q .non H', rt := Q } (start N vs) H) : Has P w K mg base CX0 x (k + 1) ps sp := by
  obtain ⟨f, fd, F, gm⟩ := D.ex
  refine ⟨f, fd, F.ok S len fun cdv A outer s H vs Q E hr h => ⟨_, PSs.nox pss_wss, body f cdv A outer s H vs Q E hr h⟩, gm, F.kp, F.bindsN bn⟩

/-- a promise of one that only adds objects: what the arguments stand for, what is asked of it, what comes back -/
def SpD {δ : Type} (Ps : δ → List Pv) (ok : δ → Prop) (res : δ → Pv) : Sp := fun vs H Q _ => ∃ d, ok d ∧ Paired (fun v P => P v H) vs (Ps d) ∧ ∀ v H', Ex H H' → res d v H' → Q v H'
theorem me_callD {X : Cx} {e : Expr} {es : List Expr} {σ : L2.St} {H : Hp} {pos p : Pos} {δ : Type} {Ps : δ → List Pv} {ok : δ → Prop} {res : δ → Pv} {k : Nat} {ps : List Str} {x : Str} (d : δ) (F : Has X.prog X.w X.K X.mg X.base CX0 x k ps (SpD Ps ok res)) (hr : Room k X.A) (ho : ok d)
    (ha : MA X (e :: es) σ H (Ps d)) (hg : Gl X x := by rfl) (hdb : (x == ("__debug__" : Str)) = false := by decide) (he : starEach (e :: es) X.env = (false, eval e X.env) :: starEach es X.env := by rfl) (hpl : (backTo pos (starEach es X.env)).any (·.1) = false := by rfl) {P' : Pv} (hP : ∀ v H2, res d v H2 → P' v H2 := by exact fun _ _ h => h) :
    ME X (.Call (.Name x p) (e :: es) [] pos) σ H P' := fun H1 x1 Q q => we_call F hr pass0 (ha H1 x1 _ fun vs H2 x2 p2 => ⟨d, ho, p2, fun v H3 x3 r => q v H3 (x2.trans x3) (hP v H3 r)⟩) hg hdb he hpl
theorem Has.mkD {x : Str} {st : Stmt} {N ps : List Str} {k : Nat} {δ : Type} {Ps : δ → List Pv} {ok : δ → Prop} {res : δ → Pv} (D : Df K mg x st) (S : FnScope N ps (defScope st)) (bn : Bnd x st ps) (len : ∀ d, (Ps d).length = ps.length)
    (body : ∀ (f : Addr) (cdv : Value) (A : Around) (outer : List Env) (s : Shared) (H : Hp) (vs : List V) (Q : VK) (E : XK) (d : δ), Room k (A.deeper (envOfC x (defScope st) s.heap.objs.size f cdv)) → ok d → Paired (fun v P => P v H) vs (Ps d) → (∀ v H', Ex H H' → res d v H' → Q v H') →
      WSs (cx0 P w K mg base N x st f cdv A outer s H E) (defBody st) { nx := fun _ H' => Q .non H', rt := Q } (start N vs) H) : Has P w K mg base CX0 x (k + 1) ps (SpD Ps ok res) :=
  .mk' D S bn (fun vs H Q E ⟨d, _, h, _⟩ => (pLen h).trans (len d)) fun f cdv A outer s H vs Q E hr ⟨d, h1, h2, h3⟩ => body f cdv A outer s H vs Q E d hr h1 h2 h3
theorem p3 {vs : List V} {P P2 P3 : Pv} {H : Hp} (h : Paired (fun v P => P v H) vs [P, P2, P3]) : ∃ x y z, vs = [x, y, z] ∧ P x H ∧ P2 y H ∧ P3 z H := by
  cases h with
  | cons r t =>
    obtain ⟨y, z, rfl, h1, h2⟩ := p2 t
    exact ⟨_, _, _, rfl, r, h1, h2⟩

/-! ### whole numbers, threads -/
abbrev spAmong : Sp := SpD (δ := Int × Int × Int) (fun d => [Is (.int d.1), Is (.int d.2.1), Is (.int d.2.2)]) (fun _ => True) fun d => Is (.bl (decide (d.2.1 ≤ d.1) && decide (d.1 ≤ d.2.2)))
theorem scIsAmong : FnScope ["thing", "least", "most"] ["thing", "least", "most"] (defScope sIsAmong) := ⟨rfl, rfl, rfl, by decide +kernel, rfl, by decide +kernel, by decide +kernel⟩
theorem hIsAmong (B : Bl mg) (D : Df K mg "is_among" sIsAmong) : Has P w K mg base CX0 "is_among" 1 ["thing", "least", "most"] spAmong :=
  .mkD D scIsAmong (fun _ _ _ _ _ _ us hl => match us, hl with | [_, _, _], _ => rfl) (fun _ => rfl) fun f cdv A outer s H vs Q E d hr ho ha q => by
    obtain ⟨x, y, z, rfl, h1, h2, h3⟩ := p3 ha
    have e1 : x = .int d.1 := h1
    have e2 : y = .int d.2.1 := h2
    have e3 : z = .int d.2.2 := h3
    subst e1 e2 e3
    exact wss_one (ws_ret (ME.we (me_and (me_isInt B (me_var 0)) fun _ => me_and (me_not (me_isBool B (me_var 0))) fun _ => me_one (me_chainI op_le op_le (me_var 1) (me_var 0) (me_var 2))) fun v H2 x2 p => q v H2 x2 p))

abbrev spThread : Sp := SpD (δ := Int) (fun d => [Is (.int d)]) (fun _ => True) fun d => Is (.bl (decide (0 ≤ d) && decide (d ≤ 99)))
theorem scIsThread : FnScope ["thing"] ["thing"] (defScope sIsThread) := ⟨rfl, rfl, rfl, by decide +kernel, rfl, by decide +kernel, by decide +kernel⟩
theorem hIsThread (B : Bl mg) (D : Df K mg "is_thread" sIsThread) (G : Has P w K mg base CX0 "is_among" 1 ["thing", "least", "most"] spAmong) (c : ∃ t, mg "MOST_THREAD" = some (.int 99 t)) : Has P w K mg base CX0 "is_thread" 2 ["thing"] spThread :=
  .mkD D scIsThread (fun _ _ _ _ _ _ us hl => match us, hl with | [_], _ => rfl) (fun _ => rfl) fun f cdv A outer s H vs Q E d hr ho ha q => by
    obtain ⟨x, rfl, h1⟩ := p1 ha
    have e1 : x = .int d := h1
    subst e1
    exact wss_one (ws_ret (ME.we (me_callD (d, 0, 99) G hr trivial (ma_cons (me_var 0) (ma_cons me_int (ma_cons (me_gi c) ma_nil)))) fun v H2 x2 p => q v H2 x2 p))

/-! ### orders -/
structure GoodO (ns : List Int) : Prop where
  len : ns.length ≤ 60
  thr : ∀ n ∈ ns, 0 ≤ n ∧ n ≤ 99
  nd : ns.Nodup
abbrev spOrder : Sp := SpD (δ := List Int) (fun d => [Tu RI d]) GoodO fun _ => Is (.bl true)
theorem scIsOrder : FnScope ["thing", "one"] ["thing"] (defScope sIsOrder) := ⟨rfl, rfl, rfl, by decide +kernel, rfl, by decide +kernel, by decide +kernel⟩
theorem allThr {ns : List Int} (h : ∀ n ∈ ns, 0 ≤ n ∧ n ≤ 99) : ((ns.map fun n => decide (0 ≤ n) && decide (n ≤ 99)).all id) = true := by
  rw [List.all_eq_true]
  intro b hb
  obtain ⟨n, hn, rfl⟩ := List.mem_map.mp hb
  obtain ⟨h1, h2⟩ := h n hn
  simp [h1, h2]
theorem hIsOrder (B : Bl mg) (D : Df K mg "is_order" sIsOrder) (G : Has P w K mg base CX0 "is_thread" 2 ["thing"] spThread) (c : ∃ t, mg "MOST_ENDS" = some (.int 60 t)) : Has P w K mg base CX0 "is_order" 3 ["thing"] spOrder :=
  .mkD D scIsOrder (fun _ _ _ _ _ _ us hl => match us, hl with | [_], _ => rfl) (fun _ => rfl) fun f cdv A outer s H vs Q E d hr ho ha q => by
    obtain ⟨v, rfl, h1⟩ := p1 ha
    refine wss_cons (ws_if (MT.wt (k := false) (MT.is (MW.mt (mw_or (mt_not (mt_val (me_isTup B (me_is (me_var 0) h1)))) fun _ => mw_or (mt_cI op_gt (me_lenT B (me_is (me_var 0) h1)) (me_gi c)) fun _ => mw_or1 (mt_not (mt_val (me_all B rfl
      (mn_n0 (R := RI) (S := RB) 1 (mi_tup (me_var 0) h1) (fun n => decide (0 ≤ n) && decide (n ≤ 99)) (small1000 (by have := ho.len; omega)) (fun n x H3 hn x3 r => ?_) scIsOrder.nd (blkOk_by (N := ["thing", "one"]) (sc := defScope sIsOrder) (by decide +kernel))).me))))) ?_) fun H2 x2 => iteF (wss_nil ?_)))
    · have e : x = .int n := r
      subst e
      intro _ _ _ _ _
      exact me_callD n G hr trivial (ma_cons (me_var 1) ma_nil)
    · rw [allThr ho.thr, decide_eq_false (by have := ho.len; omega)]
      rfl
    · refine wss_one (ws_ret (ME.ex (me_eqS (me_lsT B rfl (me_is (me_var 0) h1) ho.nd (by have := ho.len; omega)) (me_lenT B (me_is (me_var 0) h1))) x2 fun u H3 x3 p => q u H3 (x2.trans x3) ?_))
      have e : u = .bl _ := p
      rw [e, decide_eq_true rfl]
      rfl
end
end Wk
set_option Elab.async false
set_option linter.all false
set_option maxRecDepth 100000
set_option maxHeartbeats 4000000
/-! Crosses, bundles, what is kept. -/
namespace Wk
open PySem PySem.Spec PyProof.Rows L2
section
variable {P : Program} {w : World} {K : PySem.W.Frag} {mg : Str → Option Value} {base : Heap}
/-- a promise of a new object -/
def SpN {δ : Type} (Ps : δ → List Pv) (ok : δ → Prop) (res : δ → Pv) : Sp := fun vs H Q _ => ∃ d, ok d ∧ Paired (fun v P => P v H) vs (Ps d) ∧ ∀ a H', H a = none → Ex H H' → res d (.ref a) H' → Q (.ref a) H'
theorem mn_callD {X : Cx} {e : Expr} {es : List Expr} {σ : L2.St} {H : Hp} {pos p : Pos} {δ : Type} {Ps : δ → List Pv} {ok : δ → Prop} {res : δ → Pv} {k : Nat} {ps : List Str} {x : Str} (d : δ) (F : Has X.prog X.w X.K X.mg X.base CX0 x k ps (SpN Ps ok res)) (hr : Room k X.A) (ho : ok d)
    (ha : MA X (e :: es) σ H (Ps d)) (hg : Gl X x := by rfl) (hdb : (x == ("__debug__" : Str)) = false := by decide) (he : starEach (e :: es) X.env = (false, eval e X.env) :: starEach es X.env := by rfl) (hpl : (backTo pos (starEach es X.env)).any (·.1) = false := by rfl) {P' : Pv} (hP : ∀ v H2, res d v H2 → P' v H2 := by exact fun _ _ h => h) :
    MN X (.Call (.Name x p) (e :: es) [] pos) σ H P' := fun H1 x1 Q q => we_call F hr pass0 (ha H1 x1 _ fun vs H2 x2 p2 => ⟨d, ho, p2, fun a H3 n x3 r => q a H3 (Evl.fresh_back x2 n) (x2.trans x3) (hP _ H3 r)⟩) hg hdb he hpl
theorem Has.mkN {x : Str} {st : Stmt} {N ps : List Str} {k : Nat} {δ : Type} {Ps : δ → List Pv} {ok : δ → Prop} {res : δ → Pv} (D : Df K mg x st) (S : FnScope N ps (defScope st)) (bn : Bnd x st ps) (len : ∀ d, (Ps d).length = ps.length)
    (body : ∀ (f : Addr) (cdv : Value) (A : Around) (outer : List Env) (s : Shared) (H : Hp) (vs : List V) (Q : VK) (E : XK) (d : δ), Room k (A.deeper (envOfC x (defScope st) s.heap.objs.size f cdv)) → ok d → Paired (fun v P => P v H) vs (Ps d) → (∀ a H', H a = none → Ex H H' → res d (.ref a) H' → Q (.ref a) H') →
      WSs (cx0 P w K mg base N x st f cdv A outer s H E) (defBody st) { nx := fun _ H' => Q .non H', rt := Q } (start N vs) H) : Has P w K mg base CX0 x (k + 1) ps (SpN Ps ok res) :=
  .mk' D S bn (fun vs H Q E ⟨d, _, h, _⟩ => (pLen h).trans (len d)) fun f cdv A outer s H vs Q E hr ⟨d, h1, h2, h3⟩ => body f cdv A outer s H vs Q E d hr h1 h2 h3
theorem p2' {vs : List V} {P P2 : Pv} {H : Hp} (h : Paired (fun v P => P v H) vs [P, P2]) : ∃ x y, vs = [x, y] ∧ P x H ∧ P2 y H := p2 h

/-! ### all_threads -/
abbrev spAll : Sp := SpN (δ := List (List Int)) (fun d => [Tu (Tu RI) d]) (fun d => d.flatten.length ≤ 900) fun d => Li RI d.flatten
theorem scAll : FnScope ["some", "found", "order"] ["some"] (defScope sAllThreads) := ⟨rfl, rfl, rfl, by decide +kernel, rfl, by decide +kernel, by decide +kernel⟩
theorem flatTake (d : List (List Int)) (i : Nat) {o : List Int} (h : d[i]? = some o) : (d.take (i + 1)).flatten = (d.take i).flatten ++ o := by
  rw [List.take_add_one, h, List.flatten_append]
  simp
theorem flatLe : ∀ (d : List (List Int)) (i : Nat), (d.take i).flatten.length ≤ d.flatten.length
  | [], i => by simp
  | a :: d, 0 => by simp
  | a :: d, i + 1 => by
    have := flatLe d i
    simp only [List.take_succ_cons, List.flatten_cons, List.length_append]
    omega
theorem hAll (D : Df K mg "all_threads" sAllThreads) : Has P w K mg base CX0 "all_threads" 1 ["some"] spAll :=
  .mkN D scAll (fun _ _ _ _ _ _ us hl => match us, hl with | [_], _ => rfl) (fun _ => rfl) fun f cdv A outer s H vs Q E d hr ho ha q => by
    obtain ⟨v, rfl, h1⟩ := p1 ha
    refine wss_cons (ws_set 1 scAll.nd (MN.we (mn_lst ma_nil moNil (Nat.zero_le _)) fun p H1 np x1 hl => ?_))
    obtain ⟨p', xs, e, hp, hn⟩ := hl
    cases e
    cases hn
    refine wss_cons (ws_for (· = p) (fun i σ H3 => ∃ z, σ = [some v, some (.ref p), z] ∧ Ex H H3 ∧ H3 p = some (.lst ((d.take i).flatten.map V.int))) (mi_tup (me_var 0) h1) x1 (fun b e => by rw [e, hp]; exact ⟨np, fun z => nomatch z⟩) PassesOwn.never rfl
      (fun H2 x2 => ⟨none, rfl, x1.trans x2, x2 _ _ hp⟩) (fun i x σ H3 H4 hi ⟨z, e, b3, h3⟩ x4 ⟨o, ho', r⟩ => ?_) fun σ H3 ⟨z, e, b3, h3⟩ => ?_)
    · subst e
      refine wg_name 2 scAll.nd (wss_one (ws_expr (we_extT (x4 _ _ h3) (me_var 1) (me_is (me_var 2) r) ?_ fun ys H5 x5 hy => ⟨⟨_, rfl, ?_, ?_⟩, ?_⟩)))
      · have h4 := flatLe d (i + 1)
        rw [flatTake d i ho', List.length_append] at h4
        rw [List.length_map]
        have h5 : d.flatten.length ≤ 900 := ho
        omega
      · exact ExB.off (D := (· = p)) (b3.trans (x4.trans x5)) (ExB.up rfl) fun b e => by rw [e]; exact np
      · rw [pairI.mp hy, flatTake d i ho', List.map_append]
        exact upd_same
      · exact (ExB.of (x4.trans x5)).trans (ExB.up rfl)
    · subst e
      rw [List.take_length] at h3
      exact wss_one (ws_ret (ME.we (me_var 1) fun u H4 x4 e => by
        have e' : u = V.ref p := e
        rw [e']
        exact q p H4 np (b3.trans x4) (liI.mpr ⟨p, rfl, x4 _ _ h3⟩)))

/-! ### crosses, bundles -/
structure Apart (ds : List (List Int)) (k : Int) : Prop where
  len : (ds.length : Int) ≤ k
  top : k ≤ 100
  all : ∀ o ∈ ds, GoodO o
  flat : ds.flatten.length ≤ 900
  nd : ds.flatten.Nodup
abbrev spApart : Sp := SpD (δ := List (List Int) × Int) (fun d => [Tu (Tu RI) d.1, Is (.int d.2)]) (fun d => Apart d.1 d.2) fun _ => Is (.bl true)
abbrev nApart : List Str := ["things", "many", "thing", "threads"]
theorem scApart : FnScope nApart ["things", "many"] (defScope sAreApart) := ⟨rfl, rfl, rfl, by decide +kernel, rfl, by decide +kernel, by decide +kernel⟩
theorem allTrue {α : Type} : ∀ ds : List α, ((ds.map fun _ => true).all id) = true := fun ds => by
  rw [List.all_eq_true]
  intro b hb
  obtain ⟨d, _, rfl⟩ := List.mem_map.mp hb
  rfl
theorem hApart (B : Bl mg) (D : Df K mg "are_apart" sAreApart) (G : Has P w K mg base CX0 "is_order" 3 ["thing"] spOrder) (G2 : Has P w K mg base CX0 "all_threads" 1 ["some"] spAll) : Has P w K mg base CX0 "are_apart" 4 ["things", "many"] spApart :=
  .mkD D scApart (fun _ _ _ _ _ _ us hl => match us, hl with | [_, _], _ => rfl) (fun _ => rfl) fun f cdv A outer s H vs Q E d hr ho ha q => by
    obtain ⟨v, u, rfl, h1, h2⟩ := p2 ha
    have e2 : u = .int d.2 := h2
    subst e2
    have small : d.1.length ≤ 1000 := by have := ho.len; have := ho.top; omega
    refine wss_cons (ws_if (MT.wt (k := false) (MT.is (MW.mt (mw_or (mt_not (mt_val (me_isTup B (me_is (me_var 0) h1)))) fun _ => mw_or (mt_cI op_gt (me_lenT B (me_is (me_var 0) h1)) (me_var 1)) fun _ => mw_or1 (mt_not (mt_val (me_all B rfl
      (mn_n0 (R := Tu RI) (S := RB) 2 (mi_tup (me_var 0) h1) (fun _ => true) (small1000 small) (fun o x H3 hn x3 r => ?_) scApart.nd (blkOk_by (N := nApart) (sc := defScope sAreApart) (by decide +kernel))).me))))) ?_) fun H2 x2 => iteF (wss_nil ?_)))
    · intro _ _ _ _ _
      exact me_callD o G hr (ho.all o hn) (ma_cons (me_is (me_var 2) r) ma_nil)
    · rw [allTrue, decide_eq_false (by have := ho.len; omega)]
      rfl
    · refine wss_cons (ws_set 3 scApart.nd (MN.we (mn_callD d.1 G2 (hr.mono (by decide)) ho.flat (ma_cons (me_is (me_var 0) (MoR.mo (R := Tu (Tu RI)) x2 h1)) ma_nil) (P' := Li RI d.1.flatten)) fun p H3 np x3 hl => ?_))
      refine wss_one (ws_ret (ME.we (me_eqS (me_lsL B rfl (me_is (me_var 3) hl) ho.nd (by have := ho.flat; omega)) (me_lenL B (me_is (me_var 3) hl))) fun u H4 x4 p => q u H4 ((x2.trans x3).trans x4) ?_))
      have e : u = .bl _ := p
      rw [e, decide_eq_true rfl]
      rfl
abbrev spCross : Sp := SpD (δ := List (List Int)) (fun d => [Tu (Tu RI) d]) (fun d => Apart d 2 ∧ d.length = 2) fun _ => Is (.bl true)
theorem scCross : FnScope ["thing"] ["thing"] (defScope sIsCross) := ⟨rfl, rfl, rfl, by decide +kernel, rfl, by decide +kernel, by decide +kernel⟩
theorem hCross (B : Bl mg) (D : Df K mg "is_cross" sIsCross) (G : Has P w K mg base CX0 "are_apart" 4 ["things", "many"] spApart) : Has P w K mg base CX0 "is_cross" 5 ["thing"] spCross :=
  .mkD D scCross (fun _ _ _ _ _ _ us hl => match us, hl with | [_], _ => rfl) (fun _ => rfl) fun f cdv A outer s H vs Q E d hr ho ha q => by
    obtain ⟨v, rfl, h1⟩ := p1 ha
    refine wss_one (ws_ret (ME.we (me_and (k := true) (me_callD (d, 2) G hr ho.1 (ma_cons (me_is (me_var 0) h1) (ma_cons me_int ma_nil))) fun _ => me_one (me_eqS (me_lenT B (me_is (me_var 0) h1)) me_int)) fun u H4 x4 p => q u H4 x4 ?_))
    have e : u = .bl _ := p
    rw [e, ho.2]
    rfl
abbrev spBundles : Sp := SpD (δ := List (List Int)) (fun d => [Tu (Tu RI) d]) (fun d => Apart d 20) fun _ => Is (.bl true)
theorem scBundles : FnScope ["thing"] ["thing"] (defScope sAreBundles) := ⟨rfl, rfl, rfl, by decide +kernel, rfl, by decide +kernel, by decide +kernel⟩
theorem hBundles (D : Df K mg "are_bundles" sAreBundles) (G : Has P w K mg base CX0 "are_apart" 4 ["things", "many"] spApart) (c : ∃ t, mg "MOST_BUNDLES" = some (.int 20 t)) : Has P w K mg base CX0 "are_bundles" 5 ["thing"] spBundles :=
  .mkD D scBundles (fun _ _ _ _ _ _ us hl => match us, hl with | [_], _ => rfl) (fun _ => rfl) fun f cdv A outer s H vs Q E d hr ho ha q => by
    obtain ⟨v, rfl, h1⟩ := p1 ha
    exact wss_one (ws_ret (ME.we (me_callD (d, 20) G hr ho (ma_cons (me_is (me_var 0) h1) (ma_cons (me_gi c) ma_nil))) fun u H4 x4 p => q u H4 x4 p))

/-! ### what is kept -/
structure Kept where
  threads : List Int
  crosses : List (List (List Int))
  bundles : List (List Int)
def RK : Rp Kept := fun k v H => ∃ (a : Addr) (x y z : V), v = .ref a ∧ Rd H a (.tup [x, y, z]) ∧ Tu RI k.threads x H ∧ Tu (Tu (Tu RI)) k.crosses y H ∧ Tu (Tu RI) k.bundles z H
instance : Im RK := ⟨fun {d v H H'} e ⟨a, x, y, z, h1, h2, h3, h4, h5⟩ => ⟨a, x, y, z, h1, e _ _ h2, Im.im (R := Tu RI) e h3, Im.im (R := Tu (Tu (Tu RI))) e h4, Im.im (R := Tu (Tu RI)) e h5⟩⟩
structure GoodK (k : Kept) : Prop where
  thr : GoodO k.threads
  rise : k.threads = srt k.threads
  few : k.crosses.length ≤ 3
  cross : ∀ c ∈ k.crosses, Apart c 2 ∧ c.length = 2
  bund : Apart k.bundles 20
  flat : k.bundles.flatten.length + k.crosses.flatten.flatten.length ≤ 900
  sub : ∀ t ∈ k.bundles.flatten ++ k.crosses.flatten.flatten, t ∈ k.threads
abbrev spKept : Sp := SpD (δ := Kept) (fun d => [RK d]) GoodK fun _ => Is (.bl true)
abbrev nKept : List Str := ["thing", "threads", "crosses", "bundles", "cross", "some", "thread"]
theorem scKept : FnScope nKept ["thing"] (defScope sIsKept) := ⟨rfl, rfl, rfl, by decide +kernel, rfl, by decide +kernel, by decide +kernel⟩
theorem flatTake2 (d : List (List (List Int))) (i : Nat) {o : List (List Int)} (h : d[i]? = some o) : (d.take (i + 1)).flatten.flatten = (d.take i).flatten.flatten ++ o.flatten := by
  rw [List.take_add_one, h, List.flatten_append, List.flatten_append]
  simp
theorem flatLe2 : ∀ (d : List (List (List Int))) (i : Nat), (d.take i).flatten.flatten.length ≤ d.flatten.flatten.length
  | [], i => by simp
  | a :: d, 0 => by simp
  | a :: d, i + 1 => by
    have := flatLe2 d i
    simp only [List.take_succ_cons, List.flatten_cons, List.flatten_append, List.length_append]
    omega
theorem hKept (B : Bl mg) (D : Df K mg "is_kept" sIsKept) (G : Has P w K mg base CX0 "is_order" 3 ["thing"] spOrder) (G2 : Has P w K mg base CX0 "all_threads" 1 ["some"] spAll) (G3 : Has P w K mg base CX0 "is_cross" 5 ["thing"] spCross) (G4 : Has P w K mg base CX0 "are_bundles" 5 ["thing"] spBundles)
    (c : ∃ t, mg "MOST_CROSSES" = some (.int 3 t)) : Has P w K mg base CX0 "is_kept" 6 ["thing"] spKept :=
  .mkD D scKept (fun _ _ _ _ _ _ us hl => match us, hl with | [_], _ => rfl) (fun _ => rfl) fun f cdv A outer s H vs Q E d hr ho ha q => by
    obtain ⟨v, rfl, h1⟩ := p1 ha
    obtain ⟨t, x, y, z, rfl, ht, hx, hy, hz⟩ := h1
    -- if not isinstance(thing, tuple) or len(thing) != 3 or not is_order(thing[0])
    refine wss_cons (ws_if (MT.wt (k := false) (MT.is (MW.mt (mw_or (mt_not (mt_val (me_isTupV B (me_var 0) ht))) fun _ => mw_or (mt_neS (me_lenV B (me_var 0) ht) me_int) fun _ => mw_or1 (mt_not (mt_val (k := true)
      (me_callD d.threads G (hr.mono (by decide)) ho.thr (ma_cons (me_is (me_ixTV (me_var 0) me_int ht rfl) hx) ma_nil)))))) ?_) fun H2 x2 => iteF (wss_nil ?_)))
    · rfl
    have ht2 := rdMo x2 ht
    have hx2 := MoR.mo (R := Tu RI) x2 hx
    have hy2 := MoR.mo (R := Tu (Tu (Tu RI))) x2 hy
    have hz2 := MoR.mo (R := Tu (Tu RI)) x2 hz
    -- threads, crosses, bundles = thing
    refine wss_cons (ws_asg (ME.we (me_var 0) fun u H3 x3 e => ?_))
    have e' : u = V.ref t := e
    subst e'
    refine wg_tup rfl (rdMo x3 ht2) (wgs_cons (wg_name 1 scKept.nd (wgs_cons (wg_name 2 scKept.nd (wgs_cons (wg_name 3 scKept.nd (wgs_nil ?_)))))))
    have hx3 := MoR.mo (R := Tu RI) x3 hx2
    have hy3 := MoR.mo (R := Tu (Tu (Tu RI))) x3 hy2
    have hz3 := MoR.mo (R := Tu (Tu RI)) x3 hz2
    -- if list(threads) != sorted(threads) or not isinstance(crosses, tuple) or len(crosses) > MOST_CROSSES
    refine wss_cons (ws_if (MT.wt (k := false) (MT.is (MW.mt (mw_or (mt_neD encL hr.units (me_liT B (me_is (me_var 1) hx3)).me (me_sortedT B (me_is (me_var 1) hx3)).me) fun _ => mw_or (mt_not (mt_val (me_isTup B (me_is (me_var 2) hy3)))) fun _ =>
      mw_or1 (mt_cI op_gt (me_lenT B (me_is (me_var 2) hy3)) (me_gi c)))) ?_) fun H4 x4 => iteF (wss_nil ?_)))
    · rw [decide_eq_true ho.rise, decide_eq_false (by have := ho.few; omega)]
      rfl
    have hx4 := MoR.mo (R := Tu RI) x4 hx3
    have hy4 := MoR.mo (R := Tu (Tu (Tu RI))) x4 hy3
    have hz4 := MoR.mo (R := Tu (Tu RI)) x4 hz3
    -- if not all([is_cross(cross) for cross in crosses]) or not are_bundles(bundles)
    refine wss_cons (ws_if (MT.wt (k := false) (MT.is (MW.mt (mw_or (mt_not (mt_val (me_all B rfl (mn_n0 (R := Tu (Tu RI)) (S := RB) 4 (mi_tup (me_var 2) hy4) (fun _ => true) (small1000 (by have := ho.few; omega)) (fun o x H3 hn x3 r => ?_) scKept.nd
      (blkOk_by (N := nKept) (sc := defScope sIsKept) (by decide +kernel))).me))) fun _ => mw_or1 (mt_not (mt_val (k := true) (me_callD d.bundles G4 (hr.mono (by decide)) ho.bund (ma_cons (me_is (me_var 3) hz4) ma_nil)))))) ?_) fun H5 x5 => iteF (wss_nil ?_)))
    · intro _ _ _ _ _
      exact me_callD o G3 hr (ho.cross o hn) (ma_cons (me_is (me_var 4) r) ma_nil)
    · rw [allTrue]
      rfl
    have x15 := (x2.trans x3).trans (x4.trans x5)
    -- some = all_threads(bundles)
    refine wss_cons (ws_set 5 scKept.nd (MN.we (mn_callD d.bundles G2 (hr.mono (by decide)) ho.bund.flat (ma_cons (me_is (me_var 3) (MoR.mo (R := Tu (Tu RI)) x5 hz4)) ma_nil) (P' := Li RI d.bundles.flatten)) fun p H6 np x6 hl => ?_))
    obtain ⟨p', e6, hp⟩ := liI.mp hl
    cases e6
    have hy5 := MoR.mo (R := Tu (Tu (Tu RI))) x5 hy4
    -- for cross in crosses: some.extend(all_threads(cross))
    refine wss_cons (ws_for (· = p) (fun i σ H7 => ∃ g, σ = [some (.ref t), some x, some y, some z, g, some (.ref p), none] ∧ Ex H5 H7 ∧ H7 p = some (.lst ((d.bundles.flatten ++ (d.crosses.take i).flatten.flatten).map V.int))) (mi_tup (me_var 2) hy5) x6
      (fun b e => by rw [e, hp]; exact ⟨np, fun z => nomatch z⟩) PassesOwn.never rfl (fun H7 x7 => ⟨none, rfl, x6.trans x7, by rw [x7 _ _ hp]; simp⟩) (fun i u σ H7 H8 hi ⟨g, e, b7, h7⟩ x8 ⟨o, ho', r⟩ => ?_) fun σ H7 ⟨g, e, b7, h7⟩ => ?_)
    · subst e
      have om := List.mem_of_getElem? ho'
      refine wg_name 4 scKept.nd (wss_one (ws_expr (we_extL (x8 _ _ h7) (me_var 5) (mn_callD o G2 (hr.mono (by decide)) (ho.cross o om).1.flat (ma_cons (me_is (me_var 4) r) ma_nil) (P' := Li RI o.flatten)).me ?_ fun ys H9 x9 hy => ⟨⟨_, rfl, ?_, ?_⟩, ?_⟩)))
      · have h4 := flatLe2 d.crosses (i + 1)
        rw [flatTake2 d.crosses i ho', List.length_append] at h4
        rw [List.length_map, List.length_append]
        have h5 := ho.flat
        omega
      · exact ExB.off (D := (· = p)) (b7.trans (x8.trans x9)) (ExB.up rfl) fun b e => by rw [e]; exact np
      · rw [pairI.mp hy, flatTake2 d.crosses i ho', ← List.append_assoc, List.map_append (l₁ := d.bundles.flatten ++ _)]
        exact upd_same
      · exact (ExB.of (x8.trans x9)).trans (ExB.up rfl)
    · subst e
      rw [List.take_length] at h7
      -- return all([thread in threads for thread in some])
      have hx7 := MoR.mo (R := Tu RI) (x5.trans b7) hx4
      have fl := ho.flat
      refine wss_one (ws_ret (ME.we (me_all B rfl (mn_n0 (R := RI) (S := RB) 6 (mi_lst (me_var 5) (liI.mpr ⟨p, rfl, h7⟩)) (fun n => decide (n ∈ d.threads)) (small1000 (by rw [List.length_append]; omega)) (fun n x H9 hn x9 r => ?_) scKept.nd
        (blkOk_by (N := nKept) (sc := defScope sIsKept) (by decide +kernel))).me) fun u H9 x9 e => q u H9 ((x15.trans b7).trans x9) ?_))
      · intro _ _ _ _ _
        exact me_inT (me_is (me_var 6) r) (me_is (me_var 1) (MoR.mo (R := Tu RI) x9 hx7))
      · have e' : u = .bl _ := e
        rw [e']
        have e2 : ((d.bundles.flatten ++ d.crosses.flatten.flatten).map fun n => decide (n ∈ d.threads)).all id = true := by
          rw [List.all_eq_true]
          intro b hb
          obtain ⟨n, hn, rfl⟩ := List.mem_map.mp hb
          exact decide_eq_true (ho.sub n hn)
        rw [e2]
        rfl
end
end Wk
set_option Elab.async false
set_option linter.all false
set_option maxRecDepth 100000
set_option maxHeartbeats 4000000
/-! Needs, what is left, eyes, dents. -/
namespace Wk
open PySem PySem.Spec PyProof.Rows L2
section
variable {P : Program} {w : World} {K : PySem.W.Frag} {mg : Str → Option Value} {base : Heap}
theorem filterMapId {α : Type} (l : List α) (p : α → Bool) : ((l.filter p).map fun n => n) = l.filter p := by simp
theorem mapSelf {α : Type} (l : List α) : (l.map fun n => n) = l := by simp

section
variable {X : Cx} {a e : Expr} {σ : L2.St} {H : Hp} {pos q : Pos} {α : Type} {R : Rp α} {ds : List α}
theorem me_take [MoR R] {k : Nat} (ha : ME X a σ H (Tu R ds)) (hb : ME X e σ H (Is (.int (k : Int)))) : ME X (.Subscript a (.Slice none (some e) none q) pos) σ H (Tu R (ds.take k)) := cut_take ds k ▸ me_slT (l := none) (u := some (k : Int)) ha trivial hb
theorem me_drop [MoR R] {k : Nat} (ha : ME X a σ H (Tu R ds)) (hb : ME X e σ H (Is (.int (k : Int)))) : ME X (.Subscript a (.Slice (some e) none none q) pos) σ H (Tu R (ds.drop k)) := cut_drop ds k ▸ me_slT (l := some (k : Int)) (u := none) ha hb trivial
end

/-! ### what is asked of the arguments -/
abbrev spNeedOrder : Sp := SpD (δ := List Int) (fun d => [Tu RI d]) GoodO fun _ => Is .non
theorem scNeedOrder : FnScope ["thing"] ["thing"] (defScope sNeedOrder) := ⟨rfl, rfl, rfl, by decide +kernel, rfl, by decide +kernel, by decide +kernel⟩
theorem hNeedOrder (D : Df K mg "need_order" sNeedOrder) (G : Has P w K mg base CX0 "is_order" 3 ["thing"] spOrder) : Has P w K mg base CX0 "need_order" 4 ["thing"] spNeedOrder :=
  .mkD D scNeedOrder (fun _ _ _ _ _ _ us hl => match us, hl with | [_], _ => rfl) (fun _ => rfl) fun f cdv A outer s H vs Q E d hr ho ha q => by
    obtain ⟨v, rfl, h1⟩ := p1 ha
    exact wss_one (ws_if (MT.wt (k := false) (mt_not (mt_val (k := true) (me_callD d G hr ho (ma_cons (me_is (me_var 0) h1) ma_nil)))) fun H2 x2 => iteF (wss_nil (q _ H2 x2 rfl))))
abbrev spNeedKept : Sp := SpD (δ := Kept) (fun d => [RK d]) GoodK fun _ => Is .non
theorem scNeedKept : FnScope ["thing"] ["thing"] (defScope sNeedKept) := ⟨rfl, rfl, rfl, by decide +kernel, rfl, by decide +kernel, by decide +kernel⟩
theorem hNeedKept (D : Df K mg "need_kept" sNeedKept) (G : Has P w K mg base CX0 "is_kept" 6 ["thing"] spKept) : Has P w K mg base CX0 "need_kept" 7 ["thing"] spNeedKept :=
  .mkD D scNeedKept (fun _ _ _ _ _ _ us hl => match us, hl with | [_], _ => rfl) (fun _ => rfl) fun f cdv A outer s H vs Q E d hr ho ha q => by
    obtain ⟨v, rfl, h1⟩ := p1 ha
    exact wss_one (ws_if (MT.wt (k := false) (mt_not (mt_val (k := true) (me_callD d G hr ho (ma_cons (me_is (me_var 0) h1) ma_nil)))) fun H2 x2 => iteF (wss_nil (q _ H2 x2 rfl))))
abbrev spNeedThread : Sp := SpD (δ := Int) (fun d => [Is (.int d)]) (fun d => 0 ≤ d ∧ d ≤ 99) fun _ => Is .non
theorem scNeedThread : FnScope ["thing"] ["thing"] (defScope sNeedThread) := ⟨rfl, rfl, rfl, by decide +kernel, rfl, by decide +kernel, by decide +kernel⟩
theorem hNeedThread (D : Df K mg "need_thread" sNeedThread) (G : Has P w K mg base CX0 "is_thread" 2 ["thing"] spThread) : Has P w K mg base CX0 "need_thread" 3 ["thing"] spNeedThread :=
  .mkD D scNeedThread (fun _ _ _ _ _ _ us hl => match us, hl with | [_], _ => rfl) (fun _ => rfl) fun f cdv A outer s H vs Q E d hr ho ha q => by
    obtain ⟨v, rfl, h1⟩ := p1 ha
    have h1' : v = .int d := h1
    subst h1'
    refine wss_one (ws_if (MT.wt (k := false) (MT.is (mt_not (mt_val (me_callD d G hr trivial (ma_cons (me_var 0) ma_nil)))) ?_) fun H2 x2 => iteF (wss_nil (q _ H2 x2 rfl))))
    rw [decide_eq_true ho.1, decide_eq_true ho.2]
    rfl

/-! ### what is left of an order -/
def leftOf (one lost : List Int) : List Int := one.filter fun t => !decide (t ∈ lost)
abbrev spLeft : Sp := SpD (δ := List Int × List Int) (fun d => [Tu RI d.1, Tu RI d.2]) (fun d => d.1.length ≤ 1000) fun d => Tu RI (leftOf d.1 d.2)
abbrev nLeft : List Str := ["one", "order", "thread"]
theorem scLeft : FnScope nLeft ["one", "order"] (defScope sLeftOf) := ⟨rfl, rfl, rfl, by decide +kernel, rfl, by decide +kernel, by decide +kernel⟩
theorem hLeft (B : Bl mg) (D : Df K mg "left_of" sLeftOf) : Has P w K mg base CX0 "left_of" 1 ["one", "order"] spLeft :=
  .mkD D scLeft (fun _ _ _ _ _ _ us hl => match us, hl with | [_, _], _ => rfl) (fun _ => rfl) fun f cdv A outer s H vs Q E d hr ho ha q => by
    obtain ⟨v, u, rfl, h1, h2⟩ := p2 ha
    refine wss_one (ws_ret (ME.we (me_tuL B (mn_n1 (R := RI) (S := RI) 2 (mi_tup (me_var 0) h1) (fun n => !decide (n ∈ d.2)) (fun n => n) (small1000 ho) (fun n x H3 hn x3 r => ⟨?_, fun _ => ?_⟩) scLeft.nd (blkOk_by (N := nLeft) (sc := defScope sLeftOf) (by decide +kernel))).me).me fun z H4 x4 p => q z H4 x4 ?_))
    · intro _ _ _ _ _
      exact mt_niT (me_is (me_var 2) r) (me_is (me_var 1) (MoR.mo (R := Tu RI) x3 h2))
    · intro _ _ _ _ _
      exact me_is (me_var 2) r
    · rw [filterMapId] at p
      exact p

/-! ### threads in eyes -/
abbrev Led := Int × Int × Int
def RE : Rp Led := fun d => Tu RI [d.1, d.2.1, d.2.2]
instance : Im RE := ⟨fun {d v H H'} e h => Im.im (R := Tu RI) e h⟩
structure GoodE (d : Led) : Prop where
  thr : 0 ≤ d.1 ∧ d.1 ≤ 99
  shaft : 0 ≤ d.2.1 ∧ d.2.1 ≤ 7
  eye : 0 ≤ d.2.2 ∧ d.2.2 ≤ 59
abbrev spLed : Sp := SpD (δ := Led) (fun d => [RE d]) GoodE fun _ => Is (.bl true)
theorem scLed : FnScope ["thing"] ["thing"] (defScope sIsLed) := ⟨rfl, rfl, rfl, by decide +kernel, rfl, by decide +kernel, by decide +kernel⟩
theorem good1 {n : Int} (h : 0 ≤ n ∧ n ≤ 99) : GoodO [n] := ⟨by simp, fun m hm => by
  rw [List.mem_singleton.mp hm]
  exact h, by simp⟩
theorem hLed (B : Bl mg) (D : Df K mg "is_led" sIsLed) (G : Has P w K mg base CX0 "is_order" 3 ["thing"] spOrder) (G2 : Has P w K mg base CX0 "is_among" 1 ["thing", "least", "most"] spAmong) (c : ∃ t, mg "MOST_SHAFT" = some (.int 7 t)) (c2 : ∃ t, mg "MOST_EYE" = some (.int 59 t)) : Has P w K mg base CX0 "is_led" 4 ["thing"] spLed :=
  .mkD D scLed (fun _ _ _ _ _ _ us hl => match us, hl with | [_], _ => rfl) (fun _ => rfl) fun f cdv A outer s H vs Q E d hr ho ha q => by
    obtain ⟨v, rfl, h1⟩ := p1 ha
    have h1' : Tu RI [d.1, d.2.1, d.2.2] v H := h1
    refine wss_cons (ws_if (MT.wt (k := false) (MT.is (MW.mt (mw_or (mt_not (mt_val (me_isTup B (me_is (me_var 0) h1')))) fun _ => mw_or1 (mt_neS (me_lenT B (me_is (me_var 0) h1')) me_int))) (by rfl)) fun H2 x2 => iteF (wss_nil ?_)))
    have h2 := MoR.mo (R := Tu RI) x2 h1'
    refine wss_one (ws_ret (ME.we (me_and (k := true) (me_callD [d.1] G hr (good1 ho.thr) (ma_cons (me_take (k := 1) (me_is (me_var 0) h2) me_int) ma_nil)) fun _ => me_and (me_callD (d.2.1, 0, 7) G2 (hr.mono (by decide)) trivial (ma_cons (me_ixT (R := RI) (me_is (me_var 0) h2) me_int rfl) (ma_cons me_int (ma_cons (me_gi c) ma_nil)))) fun _ => me_one
      (me_callD (d.2.2, 0, 59) G2 (hr.mono (by decide)) trivial (ma_cons (me_ixT (R := RI) (me_is (me_var 0) h2) me_int rfl) (ma_cons me_int (ma_cons (me_gi c2) ma_nil))))) fun u H4 x4 p => q u H4 (x2.trans x4) ?_))
    have e : u = .bl _ := p
    rw [e, decide_eq_true ho.shaft.1, decide_eq_true ho.shaft.2, decide_eq_true ho.eye.1, decide_eq_true ho.eye.2]
    rfl
structure GoodEs (ds : List Led) : Prop where
  all : ∀ d ∈ ds, GoodE d
  ord : GoodO (ds.map fun o : Led => o.1)
abbrev spThreaded : Sp := SpD (δ := List Led) (fun d => [Tu RE d]) GoodEs fun _ => Is (.bl true)
abbrev nThreaded : List Str := ["thing", "one"]
theorem scThreaded : FnScope nThreaded ["thing"] (defScope sIsThreaded) := ⟨rfl, rfl, rfl, by decide +kernel, rfl, by decide +kernel, by decide +kernel⟩
theorem hThreaded (B : Bl mg) (D : Df K mg "is_threaded" sIsThreaded) (G : Has P w K mg base CX0 "is_led" 4 ["thing"] spLed) (G2 : Has P w K mg base CX0 "is_order" 3 ["thing"] spOrder) (c : ∃ t, mg "MOST_ENDS" = some (.int 60 t)) : Has P w K mg base CX0 "is_threaded" 5 ["thing"] spThreaded :=
  .mkD D scThreaded (fun _ _ _ _ _ _ us hl => match us, hl with | [_], _ => rfl) (fun _ => rfl) fun f cdv A outer s H vs Q E d hr ho ha q => by
    obtain ⟨v, rfl, h1⟩ := p1 ha
    have len : d.length ≤ 60 := by
      have := ho.ord.len
      rw [List.length_map] at this
      exact this
    refine wss_cons (ws_if (MT.wt (k := false) (MT.is (MW.mt (mw_or (mt_not (mt_val (me_isTup B (me_is (me_var 0) h1)))) fun _ => mw_or (mt_cI op_gt (me_lenT B (me_is (me_var 0) h1)) (me_gi c)) fun _ => mw_or1 (mt_not (mt_val (me_all B rfl
      (mn_n0 (R := RE) (S := RB) 1 (mi_tup (me_var 0) h1) (fun _ => true) (small1000 (by omega)) (fun o x H3 hn x3 r => ?_) scThreaded.nd (blkOk_by (N := nThreaded) (sc := defScope sIsThreaded) (by decide +kernel))).me))))) ?_) fun H2 x2 => iteF (wss_nil ?_)))
    · intro _ _ _ _ _
      exact me_callD o G hr (ho.all o hn) (ma_cons (me_is (me_var 1) r) ma_nil)
    · rw [allTrue, decide_eq_false (by omega)]
      rfl
    · refine wss_one (ws_ret (ME.we (me_callD (d.map fun o : Led => o.1 : List Int) G2 (hr.mono (by decide)) ho.ord (ma_cons (me_tuL B (mn_n0 (R := RE) (S := RI) 1 (mi_tup (me_var 0) (MoR.mo (R := Tu RE) x2 h1)) (fun o : Led => o.1) (small1000 (by omega)) (fun o x H3 hn x3 r => ?_) scThreaded.nd
        (blkOk_by (N := nThreaded) (sc := defScope sIsThreaded) (by decide +kernel))).me).me ma_nil)) fun u H4 x4 p => q u H4 (x2.trans x4) p))
      have r' : Tu RI [o.1, o.2.1, o.2.2] x H3 := r
      intro _ _ _ _ _
      exact me_ixT (R := RI) (me_is (me_var 1) r') me_int rfl

/-! ### dents -/
abbrev spThreadsIn : Sp := SpD (δ := List (List Int)) (fun d => [Tu (Tu RI) d]) (fun d => d.flatten.length ≤ 900) fun d => Tu RI d.flatten
abbrev nThreadsIn : List Str := ["dents", "found", "dent"]
theorem scThreadsIn : FnScope nThreadsIn ["dents"] (defScope sThreadsIn) := ⟨rfl, rfl, rfl, by decide +kernel, rfl, by decide +kernel, by decide +kernel⟩
theorem hThreadsIn (D : Df K mg "threads_in" sThreadsIn) : Has P w K mg base CX0 "threads_in" 1 ["dents"] spThreadsIn :=
  .mkD D scThreadsIn (fun _ _ _ _ _ _ us hl => match us, hl with | [_], _ => rfl) (fun _ => rfl) fun f cdv A outer s H vs Q E d hr ho ha q => by
    obtain ⟨v, rfl, h1⟩ := p1 ha
    refine wss_cons (ws_set 1 scThreadsIn.nd ((mn_tup ma_nil moNil (Nat.zero_le _)).me.we fun z H1 x1 hz => ?_))
    have hz' : Tu RI [] z H1 := TuP.tu (ds := ([] : List Int)) hz
    refine wss_cons (ws_for (fun _ => False) (fun i σ H3 => ∃ f g, σ = [some v, some f, g] ∧ Ex H H3 ∧ Tu RI (d.take i).flatten f H3) (mi_tup (me_var 0) h1) x1 (fun b e => e.elim) PassesOwn.never rfl
      (fun H2 x2 => ⟨z, none, rfl, x1.trans x2, MoR.mo (R := Tu RI) x2 hz'⟩) (fun i x σ H3 H4 hi ⟨z, g, e, b3, h3⟩ x4 ⟨o, ho', r⟩ => ?_) fun σ H3 ⟨z, g, e, b3, h3⟩ => ?_)
    · subst e
      have h4 := flatLe d (i + 1)
      rw [flatTake d i ho', List.length_append] at h4
      have h5 : d.flatten.length ≤ 900 := ho
      refine wg_name 2 scThreadsIn.nd (wss_one (ws_set 1 scThreadsIn.nd ((me_cat (R := RI) (me_is (me_var 1) (MoR.mo (R := Tu RI) x4 h3)) (me_is (me_var 2) r) (by omega)).we fun y H5 x5 p => ⟨⟨y, _, rfl, b3.trans (x4.trans x5), ?_⟩, ExB.of (x4.trans x5)⟩)))
      rw [flatTake d i ho']
      exact p
    · subst e
      rw [List.take_length] at h3
      exact wss_one (ws_ret (ME.we (me_is (me_var 1) h3) fun u H4 x4 p => q u H4 (b3.trans x4) p))
structure GoodD (ds : List (List Int)) : Prop where
  least : 1 ≤ ds.length
  most : ds.length ≤ 120
  all : ∀ o ∈ ds, GoodO o
  ord : GoodO ds.flatten
abbrev spReeded : Sp := SpD (δ := List (List Int)) (fun d => [Tu (Tu RI) d]) GoodD fun _ => Is (.bl true)
abbrev nReeded : List Str := ["thing", "dent"]
theorem scReeded : FnScope nReeded ["thing"] (defScope sIsReeded) := ⟨rfl, rfl, rfl, by decide +kernel, rfl, by decide +kernel, by decide +kernel⟩
theorem hReeded (B : Bl mg) (D : Df K mg "is_reeded" sIsReeded) (G : Has P w K mg base CX0 "is_order" 3 ["thing"] spOrder) (G2 : Has P w K mg base CX0 "threads_in" 1 ["dents"] spThreadsIn) (c : ∃ t, mg "MOST_DENTS" = some (.int 120 t)) : Has P w K mg base CX0 "is_reeded" 4 ["thing"] spReeded :=
  .mkD D scReeded (fun _ _ _ _ _ _ us hl => match us, hl with | [_], _ => rfl) (fun _ => rfl) fun f cdv A outer s H vs Q E d hr ho ha q => by
    obtain ⟨v, rfl, h1⟩ := p1 ha
    have lo := ho.least
    have hi := ho.most
    refine wss_cons (ws_if (MT.wt (k := false) (MT.is (MW.mt (mw_or (mt_not (mt_val (me_isTup B (me_is (me_var 0) h1)))) fun _ => mw_or1 (mt_not (mt_chainI op_le op_le me_int (me_lenT B (me_is (me_var 0) h1)) (me_gi c))))) ?_) fun H2 x2 => iteF (wss_nil ?_)))
    · rw [decide_eq_true (by omega), decide_eq_true (by omega)]
      rfl
    have h2 := MoR.mo (R := Tu (Tu RI)) x2 h1
    refine wss_cons (ws_if (MT.wt (k := false) (MT.is (mt_not (mt_val (me_all B rfl
      (mn_n0 (R := Tu RI) (S := RB) 1 (mi_tup (me_var 0) h2) (fun _ => true) (small1000 (by omega)) (fun o x H3 hn x3 r => ?_) scReeded.nd (blkOk_by (N := nReeded) (sc := defScope sIsReeded) (by decide +kernel))).me))) ?_) fun H3 x3 => iteF (wss_nil ?_)))
    · intro _ _ _ _ _
      exact me_and (k := true) (me_isTup B (me_is (me_var 1) r)) fun _ => me_one (me_callD o G hr (ho.all o hn) (ma_cons (me_is (me_var 1) r) ma_nil))
    · rw [allTrue]
      rfl
    · exact wss_one (ws_ret (ME.we (me_callD d.flatten G hr ho.ord (ma_cons (me_callD d G2 (hr.mono (by decide)) (Nat.le_trans ho.ord.len (by decide)) (ma_cons (me_is (me_var 0) (MoR.mo (R := Tu (Tu RI)) x3 h2)) ma_nil)) ma_nil)) fun u H4 x4 p => q u H4 ((x2.trans x3).trans x4) p))
abbrev spNeedDents : Sp := SpD (δ := List (List Int)) (fun d => [Tu (Tu RI) d]) GoodD fun _ => Is .non
theorem scNeedDents : FnScope ["thing"] ["thing"] (defScope sNeedDents) := ⟨rfl, rfl, rfl, by decide +kernel, rfl, by decide +kernel, by decide +kernel⟩
theorem hNeedDents (D : Df K mg "need_dents" sNeedDents) (G : Has P w K mg base CX0 "is_reeded" 4 ["thing"] spReeded) : Has P w K mg base CX0 "need_dents" 5 ["thing"] spNeedDents :=
  .mkD D scNeedDents (fun _ _ _ _ _ _ us hl => match us, hl with | [_], _ => rfl) (fun _ => rfl) fun f cdv A outer s H vs Q E d hr ho ha q => by
    obtain ⟨v, rfl, h1⟩ := p1 ha
    exact wss_one (ws_if (MT.wt (k := false) (mt_not (mt_val (k := true) (me_callD d G hr ho (ma_cons (me_is (me_var 0) h1) ma_nil)))) fun H2 x2 => iteF (wss_nil (q _ H2 x2 rfl))))
abbrev spNeedEyes : Sp := SpD (δ := List Led) (fun d => [Tu RE d]) GoodEs fun _ => Is .non
theorem scNeedEyes : FnScope ["thing"] ["thing"] (defScope sNeedEyes) := ⟨rfl, rfl, rfl, by decide +kernel, rfl, by decide +kernel, by decide +kernel⟩
theorem hNeedEyes (D : Df K mg "need_eyes" sNeedEyes) (G : Has P w K mg base CX0 "is_threaded" 5 ["thing"] spThreaded) : Has P w K mg base CX0 "need_eyes" 6 ["thing"] spNeedEyes :=
  .mkD D scNeedEyes (fun _ _ _ _ _ _ us hl => match us, hl with | [_], _ => rfl) (fun _ => rfl) fun f cdv A outer s H vs Q E d hr ho ha q => by
    obtain ⟨v, rfl, h1⟩ := p1 ha
    exact wss_one (ws_if (MT.wt (k := false) (mt_not (mt_val (k := true) (me_callD d G hr ho (ma_cons (me_is (me_var 0) h1) ma_nil)))) fun H2 x2 => iteF (wss_nil (q _ H2 x2 rfl))))
end
end Wk
set_option Elab.async false
set_option linter.all false
set_option maxRecDepth 100000
set_option maxHeartbeats 4000000
/-! enumerate of a tuple; zip, enumerate as what is walked; pairs. -/
namespace Wk
open PySem PySem.Spec PyProof.Rows L2

set_option maxHeartbeats 1000000 in
theorem meetsEnumT {v : Value} {o : Obj} {H : Heap → Prop} (B : Begins v o H) :
    Meets (Builtin.«enumerate.__new__» ⟨[.type "enumerate", v], []⟩) (fun _ R s => H s.heap ∧
      R (.ok (.ret (.ref (s.heap.push o).objs.size))) { s with heap := (s.heap.push o).push { cls := .type "enumerate", data := .fields #[.none, .bool false, .ref s.heap.objs.size, rawInt 0, .none, .none] } }) :=
  .of_wp fun prog w A R s h => by
    obtain ⟨hp, g, d, tk, os⟩ := s; obtain ⟨h1, h⟩ := h
    have hsub := sub_enumerate
    have q1 : ∀ {A' : Around} {E : Value → Shared → Prop} {Q : Value → Shared → Prop}, Q (.ref hp.objs.size) ⟨hp.push o, g, d, tk, os⟩ → wpAny (model prog w) A' (pyIter v) Q E ⟨hp, g, d, tk, os⟩ :=
      fun q => B.iter prog w _ _ ⟨hp, g, d, tk, os⟩ _ h1 q
    wp_walk using q1
    refine wpAny_stack_any fun st => wpAny_pure ?_
    split
    · rename_i c _ _ _ _ _
      cases (c == Value.type "enumerate")
      · wp_walk using q1
        exact ⟨_, rfl, h⟩
      · wp_walk using q1
        exact ⟨_, rfl, h⟩
    · wp_walk using q1
      exact ⟨_, rfl, h⟩
section
variable {prog : Program} {w : World} {A : Around} {E : Value → Shared → Prop} {s : Shared}
theorem enumBegins {v : Value} {o : Obj} {H : Heap → Prop} {Q : Value → Shared → Prop} (B : Begins v o H) (h1 : H s.heap)
    (h : ∀ h', IsEnum h' (s.heap.objs.size + 1) s.heap.objs.size 0 .none → h'.get? s.heap.objs.size = some o → h'.objs.size = s.heap.objs.size + 2 →
      (∀ b o, s.heap.get? b = some o → h'.get? b = some o) → Q (.ref (s.heap.objs.size + 1)) { s with heap := h' }) :
    wpAny (model prog w) A (call (.type "enumerate") [v]) Q E s := by
  refine callType_new F.called_enumerate (by decide) (F.typeCall_enumerate_1 _) (F.newCall_enumerate_1 _) (fun obj => F.args_object_init_2 obj _) F.entry_enumerate_new
    (meetsEnumT B) ⟨h1, ?_⟩
  have hz : (s.heap.push o).objs.size = s.heap.objs.size + 1 := Heap.size_push ..
  show _ ∧ _
  rw [hz]
  have he : IsEnum ((s.heap.push o).push { cls := .type "enumerate", data := .fields #[.none, .bool false, .ref s.heap.objs.size, rawInt 0, .none, .none] }) (s.heap.objs.size + 1) s.heap.objs.size 0 .none := by
    have := Heap.get?_push_size (s.heap.push o) (o := { cls := .type "enumerate", data := .fields #[.none, .bool false, .ref s.heap.objs.size, rawInt 0, .none, .none] }) rfl
    rw [hz] at this; exact this
  refine ⟨⟨_, he, rfl⟩, h _ he (Heap.get?_push_of_some _ (Heap.get?_push_size _ B.free)) (by rw [Heap.size_push, hz]) fun b o x => Heap.get?_push_of_some _ (Heap.get?_push_of_some _ x)⟩
end
/-- the tuple at a as it stands at each turn, each item in a new pair -/
def IteT (K : PySem.W.Frag) (a : Addr) : It :=
  ⟨fun i H => ∃ (xs : List V) (x : V), SqT K H a xs ∧ xs[i]? = some x, fun i H v H' => ∃ T x, v = .ref T ∧ H T = none ∧ H' = upd H T (.tup [.int (i : Nat), x]) ∧ ∀ xs, SqT K H a xs → xs[i]? = some x, fun i H => ∃ xs : List V, SqT K H a xs ∧ xs.length ≤ i⟩
theorem turnEnumT {P : Program} {w : World} {K : PySem.W.Frag} {elts : List Expr} {kk : Nat} {tpos : Pos} (a e it : Addr) :
    Turn P w K (.Tuple elts kk tpos) (IteT K a) [e, it] e (fun i h => (∃ old, IsEnum h e it ((i : Nat) : Int) old) ∧ h.IsTupleIter it a i ∧ e ≠ it ∧ a ≠ e ∧ a ≠ it) where
  mem := by simp
  obj := fun i h st b hb => by
    obtain ⟨⟨old, he⟩, ⟨o, ho, hc, hd⟩, _⟩ := st
    have e' : b = e ∨ b = it := by simpa using hb
    rcases e' with z | z
    · rw [z]; exact ⟨_, he, fun v q => nomatch q⟩
    · rw [z]; exact ⟨o, ho, fun v q => by rw [hd] at q; cases q⟩
  keep := fun i h h' st k => let ⟨⟨old, he⟩, hi, hne⟩ := st; ⟨⟨old, k e (by simp) _ he⟩, hi.at fun o q => k it (by simp) o q, hne⟩
  item := by
    intro X hP hw hK hc i pins s σ H E I hf st hg
    subst hP hw hK
    obtain ⟨⟨old, he⟩, hit, hne, hae, hai⟩ := st
    obtain ⟨xs, x, hq, hx⟩ := hg
    obtain ⟨its, rv, p, hz⟩ := I.tuple hq
    obtain ⟨u, hu, ru⟩ := rv.get hx
    have hel : e < s.heap.objs.size := Heap.lt_size he
    have hil : it < s.heap.objs.size := by obtain ⟨_, q, _⟩ := hit; exact Heap.lt_size q
    have hu' : its.toArray[i]? = some u := by simpa using hu
    have hi : i < its.toArray.size := (Array.getElem?_eq_some_iff.mp hu').1
    refine wpAny_pyNext_enum_itemD (n := its.toArray.size) (P := fun i v => its.toArray[i]? = some v) (St := fun i h => h.IsTupleIter it a i ∧ h.IsTuple a its.toArray) (fp := [it, a]) (Draws.tuple (A := X.A.in1) (show X.A.in1.handled = none from I.ok.hd hc) it a hai its.toArray) he ⟨hit, p⟩ hi hne (by simp [Ne.symm hae, hne])
      fun y h' tk hy ho hit' hT hsz hk => ?_
    have ey : u = y := Option.some.inj (hu'.symm.trans hy)
    subst ey
    refine ⟨_, rfl, wpAny_letOwnedTupleGo_enum (s := { s with heap := h', toks := tk + 1 }) ho fun h'' he' sb => ?_⟩
    have hT2 : h''.get? s.heap.objs.size = some { cls := .type "tuple", data := .seq #[.int i tk, u] } := (sb.2 _ (Nat.ne_of_gt hel)).trans hT
    have new : ObjOk X.prog X.w (upd H s.heap.objs.size (.tup [.int (i : Nat), x])) h'' s.heap.objs.size (.tup [.int (i : Nat), x]) :=
      ⟨by show 2 ≤ sizeLine; decide, [.int i tk, u], .cons ⟨_, rfl⟩ (.cons ru .nil), ⟨_, hT2, rfl, _, rfl⟩⟩
    have I1 : Inv X pins σ (upd H s.heap.objs.size (.tup [.int (i : Nat), x])) { s with heap := h'', toks := tk + 1 } :=
      I.turnedNew (ch := [e, it]) (fun b ob hb q => (sb.2 b (fun z => hb (by simp [z]))).trans (hk b ob (fun z => hb (by simp [z])) (fun z => hb (by simp [z])) q)) hf (Nat.le_refl _) new
    refine ⟨.ref s.heap.objs.size, _, I1, rfl, ⟨_, x, rfl, I.hok.fresh (Nat.le_refl _), rfl, fun ys hy => by rw [I.tuple_inj hy hq]; exact hx⟩, ⟨⟨u, ?_⟩, hit'.1.at fun o q => (sb.2 it (Ne.symm hne)).trans q, hne, hae, hai⟩, fun b hb => ?_⟩
    · have e1 : ((i + 1 : Nat) : Int) = (i : Int) + 1 := by omega
      rw [e1]; exact he'
    · have hb' : b < s.heap.objs.size := by
        have e' : b = e ∨ b = it := by simpa using hb
        rcases e' with z | z
        · rw [z]; exact hel
        · rw [z]; exact hil
      rw [upd_ne (Nat.ne_of_lt hb')]
      exact (hf b hb).1
  done := by
    intro X hP hw hK hc i pins s σ H E I hf st hg
    subst hP hw hK
    obtain ⟨⟨old, he⟩, hit, hne, hae, hai⟩ := st
    obtain ⟨xs, hq, hx⟩ := hg
    obtain ⟨its, rv, p, hz⟩ := I.tuple hq
    obtain ⟨f0, f1, f2, f3, f4, f5⟩ := hf it (by simp)
    have hl := rv.length
    have hn : its.toArray[i]? = none := by simp; omega
    have hT : s.TypeIs (.ref e) "enumerate" := ⟨_, he, rfl⟩
    unfold pyNext
    refine wpAny_bind (wpAny_attempt (wpAny_callSpecial?_slot (name := Str.ofString "__next__") hT F.slot_enumerate_next
      (wpAny_call_entry F.slot_enumerate_next hT F.entry_enumerate_next ?_ (F.args_enumerate_next_1 _))))
    show wpAny _ _ (field (.ref e) 2 >>= _) _ _ _
    refine wpAny_bind (wpAny_field he rfl (x := .ref it) rfl ?_)
    refine wpAny_bind (wpAny_nextOf_tuple_end (I.ok.hd hc) hit p hn fun h' x eb hx' => ?_)
    obtain ⟨o, ho, hcl⟩ := hx'
    refine wpAny_bind (wpAny_isInstance (T := "StopIteration") (b := true) ⟨o, ho, hcl⟩ isSubtype_stop ?_)
    exact wpAny_pure ⟨rfl, I.turned (t' := s.toks) (fun b o hb q => eb b o hb q) f0 f1 f3 f4 f5⟩
  self := fun A i s Q E st h => let ⟨⟨_, he⟩, _⟩ := st; wpAny_pyIter_enum he h
def iEnumT (K : PySem.W.Frag) (ta : TA) : TI := fun σ H R => ta σ H fun vs H1 => ∃ a xs, vs = [.ref a] ∧ SqT K H1 a xs ∧ R (IteT K a) H1
theorem pi_enumT {X : Cx} {e : Expr} {ta : TA} {p pos tpos : Pos} {elts : List Expr} {kk : Nat} (hg : Gl X "enumerate") (hm : X.mg "enumerate" = none) (ha : PA X [e] ta) (hs : starEach [e] X.env = [(false, eval e X.env)] := by rfl) :
    PI X (.Tuple elts kk tpos) (.Call (.Name "enumerate" p) [e] [] pos) (iEnumT X.K ta) := by
  refine ⟨fun pins s σ H R I h => ?_⟩
  refine Call_ (ld_blt I hg hm boot_enumerate (PyProof.Rows.callWith_type1 (thn (ha.run pos pins s σ H _ I h) fun us s1 ⟨vs, H1, I1, r1, q1⟩ => ?_) hs rfl))
  obtain ⟨a, xs, ex, hq, q⟩ := q1
  subst ex
  cases r1 with
  | cons r rr =>
    cases rr
    cases r
    obtain ⟨its, rv, p', hz⟩ := I1.tuple hq
    have hal : a < s1.heap.objs.size := by obtain ⟨_, q, _⟩ := p'; exact Heap.lt_size q
    refine enumBegins (begins_tuple a its.toArray) p' fun h' he hit hsz hk => wpAny_pyIter_enum he ?_
    have I2 : Inv X pins σ H1 { s1 with heap := h' } := I1.kept (t' := s1.toks) hk
    refine ⟨s1.heap.objs.size + 1, [s1.heap.objs.size + 1, s1.heap.objs.size], _, _, H1, rfl, I2, turnEnumT a (s1.heap.objs.size + 1) s1.heap.objs.size, ⟨⟨.none, he⟩, ⟨_, hit, rfl, rfl⟩, Nat.succ_ne_self _, Nat.ne_of_lt (Nat.lt_succ_of_lt hal), Nat.ne_of_lt hal⟩, fun b hb => ?_, q⟩
    have e' : b = s1.heap.objs.size + 1 ∨ b = s1.heap.objs.size := by simpa using hb
    have hle : s1.heap.objs.size ≤ b := by
      rcases e' with z | z
      · rw [z]; exact Nat.le_add_right _ _
      · rw [z]; exact Nat.le_refl _
    exact I1.fpOk hle (I1.hok.fresh hle)

/-! ### pairs -/
def Pr {α β : Type} (R : Rp α) (S : Rp β) : Rp (α × β) := fun d v H => ∃ (a : Addr) (x y : V), v = .ref a ∧ Rd H a (.tup [x, y]) ∧ R d.1 x H ∧ S d.2 y H
instance {α β : Type} {R : Rp α} {S : Rp β} [m : Im R] [n : Im S] : Im (Pr R S) := ⟨fun e ⟨a, x, y, h1, h2, h3, h4⟩ => ⟨a, x, y, h1, e _ _ h2, m.im e h3, n.im e h4⟩⟩
/-- a value that stands, or a new one -/
def MF (X : Cx) (e : Expr) (σ : L2.St) (H : Hp) {α : Type} (R : Rp α) (ds : List α) : Prop := ∀ H1, Ex H H1 → ∀ Q : VK, (∀ v H2, Ex H1 H2 → Tu R ds v H2 → (Tu R ds v H ∨ ∃ a, v = .ref a ∧ H1 a = none) → Q v H2) → WE X e σ H1 Q
section
variable {X : Cx} {tg iter e a b : Expr} {es : List Expr} {σ : L2.St} {H : Hp} {pos p q : Pos} {α β : Type} {R : Rp α} {S : Rp β} {ds : List α} {ds' : List β} {v : V}
theorem mf_is [m : MoR R] (h : ME X e σ H (Is v)) (t : Tu R ds v H) : MF X e σ H R ds := fun H1 x1 Q k => h H1 x1 Q fun u H2 x2 p => by
  have e' : u = v := p
  subst e'
  exact k _ H2 x2 (MoR.mo (R := Tu R) (x1.trans x2) t) (.inl t)
/-- xs[k:], xs standing -/
theorem mf_drop [m : MoR R] {k : Nat} (ha : ME X a σ H (Is v)) (t : Tu R ds v H) (hb : ME X b σ H (Is (.int (k : Int)))) : MF X (.Subscript a (.Slice (some b) none none q) pos) σ H R (ds.drop k) := fun H1 x1 Q z => by
  obtain ⟨t1, h1, k1⟩ := poMO (X := X) (e := some b) (σ := σ) (H := H) (o := some (k : Int)) hb
  refine .of (pe_slice sl_tupA pe_we h1 po_none) (ha H1 x1 _ fun u H2 x2 p => k1 H2 (x1.trans x2) _ fun H3 x3 => ?_)
  have e' : u = v := p
  subst e'
  obtain ⟨c, xs, rfl, h3, h4⟩ := t
  have x13 := x1.trans (x2.trans x3)
  have h3' := rdMo x13 h3
  have h4' := pImp (fun _ _ => m.mo x13) h4
  refine ⟨c, xs, rfl, .inl h3', fun w => z _ H3 (x2.trans x3) ⟨c, xs, rfl, h3', ?_⟩ (.inl ⟨c, xs, rfl, h3, ?_⟩), fun _ p hp => z _ _ ((x2.trans x3).trans (exNew hp)) ⟨p, _, rfl, .inl upd_same, pImp (fun _ _ => m.mo (exNew hp)) ?_⟩ (.inr ⟨p, rfl, Evl.fresh_back (x2.trans x3) hp⟩)⟩
  · rw [pLen h4] at w
    rw [← cut_drop, cutWhole w]
    exact h4'
  · rw [pLen h4] at w
    rw [← cut_drop, cutWhole w]
    exact h4
  · rw [← cut_drop]
    exact cutPair h4' _ _
theorem starOf {α : Type} {R : Rp α} {ds : List α} {v : V} {H H1 H2 : Hp} (o : Tu R ds v H ∨ ∃ a, v = .ref a ∧ H1 a = none) {a : Addr} {xs : List V} (e : v = .ref a) (h : Rd H2 a (.tup xs)) {D : Addr → Prop} (off : ∀ b, D b → H b = none ∧ (H1 b ≠ none ∨ H2 b = none)) : ¬ D a := fun d => by
  obtain ⟨h1, h2⟩ := off a d
  rcases o with ⟨a', xs', e', h', _⟩ | ⟨a', e', h'⟩
  · rw [e] at e'
    cases e'
    rcases h' with h' | ⟨ob, h'⟩
    · rw [h1] at h'
      cases h'
    · rw [h1] at h'
      cases h'
  · rw [e] at e'
    cases e'
    rcases h2 with h2 | h2
    · exact h2 h'
    · rcases h with h | ⟨ob, h⟩
      · rw [h2] at h
        cases h
      · rw [h2] at h
        cases h
theorem rdB {D : Addr → Prop} {H H' : Hp} {a : Addr} {o : HO} (x : ExB D H H') (n : ¬ D a) (h : Rd H a o) : Rd H' a o := by
  rcases h with h | ⟨ob, h⟩
  · exact .inl (x a _ n h)
  · exact .inr ⟨ob, x a _ n h⟩
theorem at_zip {ns ms : List Int} {i : Nat} (hi : i < (ns.zip ms).length) : ∃ n m, ns[i]? = some n ∧ ms[i]? = some m ∧ (ns.zip ms)[i]? = some (n, m) := by
  have h := hi
  rw [List.length_zip] at h
  have h1 : i < ns.length := by omega
  have h2 : i < ms.length := by omega
  exact ⟨ns[i], ms[i], List.getElem?_eq_getElem h1, List.getElem?_eq_getElem h2, by rw [List.getElem?_eq_getElem hi, List.getElem_zip]⟩
/-- zip(a, b), tuples of ints -/
theorem mi_zip {ns ms : List Int} {elts : List Expr} {kk : Nat} {tpos : Pos} (hm : X.mg "zip" = none) (ha : MF X a σ H RI ns) (hb : MF X b σ H RI ms) (hg : Gl X "zip" := by rfl)
    (hs : starEach [a, b] X.env = (false, eval a X.env) :: starEach [b] X.env := by rfl) (hs2 : starEach [b] X.env = (false, eval b X.env) :: starEach [] X.env := by rfl) (hpl : (backTo pos (starEach [b] X.env)).any (·.1) = false := by rfl) :
    MI X (.Tuple elts kk tpos) (.Call (.Name "zip" p) [a, b] [] pos) σ H (ns.zip ms).length (At (Pr RI RI) (ns.zip ms)) := fun H1 x1 R0 z =>
  .of (RZ.pi_zipA hg hm (pa_cons pe_we (pa_cons pe_we pa_nil hs2) hs) hs hpl) (ha H1 x1 _ fun v H2 x2 t f => hb H2 (x1.trans x2) _ fun u H3 x3 t' f' => by
    obtain ⟨c, rfl, hc⟩ := tuI.mp t
    obtain ⟨d, rfl, hd⟩ := tuI.mp t'
    have hc3 := rdMo x3 hc
    have f2 : Tu RI ms (.ref d) H ∨ ∃ a, V.ref d = .ref a ∧ H1 a = none := f'.imp id fun ⟨a, e, h⟩ => ⟨a, e, Evl.fresh_back x2 h⟩
    refine ⟨c, d, ns.map V.int, ms.map V.int, rfl, .inr ⟨.inl hc3, .inl hd, z _ H3 (fun H4 => Ex H H4 ∧ Rd H4 c (.tup (ns.map V.int)) ∧ Rd H4 d (.tup (ms.map V.int))) (x2.trans x3) ⟨x1.trans (x2.trans x3), hc3, hd⟩
      (fun D H4 H5 off xb ⟨g1, g2, g3⟩ => ⟨holdsBase (H1 := H1) (H2 := H3) D H4 H5 off xb g1, rdB xb (starOf f rfl hc3 off) g2, rdB xb (starOf f2 rfl hd off) g3⟩) ⟨fun i H4 g hi => ?_, fun i H4 x H5 g hi y => ?_, fun i H4 g hi => ?_⟩⟩⟩
    · obtain ⟨n, m, e1, e2, e3⟩ := at_zip hi
      exact ⟨_, _, .int n, .int m, .inl g.2.1, .inl g.2.2, by rw [List.getElem?_map, e1]; rfl, by rw [List.getElem?_map, e2]; rfl⟩
    · obtain ⟨n, m, e1, e2, e3⟩ := at_zip hi
      obtain ⟨T, x', y', rfl, hT, rfl, y1, y2⟩ := y
      have y1 := y1 _ (.inl g.2.1)
      have y2 := y2 _ (.inl g.2.2)
      rw [List.getElem?_map, e1] at y1
      rw [List.getElem?_map, e2] at y2
      cases y1
      cases y2
      exact ⟨exNew hT, (n, m), e3, T, _, _, rfl, .inl upd_same, rfl, rfl⟩
    · rw [List.length_zip] at hi
      exact ⟨_, _, .inl g.2.1, .inl g.2.2, by rw [List.length_map, List.length_map]; omega⟩)
/-- (0, x0), (1, x1), .. -/
def numbered {α : Type} (ds : List α) : List (Int × α) := ds.zipIdx.map fun d => ((d.2 : Nat), d.1)
theorem numLen {α : Type} (ds : List α) : (numbered ds).length = ds.length := by simp [numbered]
theorem numAt {α : Type} (ds : List α) (i : Nat) : (numbered ds)[i]? = ds[i]?.map fun d => (((i : Nat) : Int), d) := by
  unfold numbered
  rw [List.getElem?_map, List.getElem?_zipIdx]
  cases ds[i]? with
  | none => rfl
  | some d => simp
/-- enumerate(t), t a tuple that stands -/
theorem mi_enumT [m : MoR R] {elts : List Expr} {kk : Nat} {tpos : Pos} (hm : X.mg "enumerate" = none) (ha : ME X a σ H (Is v)) (ht : Tu R ds v H) (hg : Gl X "enumerate" := by rfl)
    (hs : starEach [a] X.env = (false, eval a X.env) :: starEach [] X.env := by rfl) (hs2 : starEach [a] X.env = [(false, eval a X.env)] := by rfl) :
    MI X (.Tuple elts kk tpos) (.Call (.Name "enumerate" p) [a] [] pos) σ H (numbered ds).length (At (Pr RI R) (numbered ds)) := numLen ds ▸ fun H1 x1 R0 z =>
  .of (pi_enumT hg hm (pa_cons pe_we pa_nil hs) hs2) (ha H1 x1 _ fun u H2 x2 e => by
    have e' : u = v := e
    subst e'
    obtain ⟨c, xs, rfl, hc, hp⟩ := ht
    refine ⟨c, xs, rfl, .inl (rdMo (x1.trans x2) hc), z _ H2 (Ex H) x2 (x1.trans x2) holdsBase ⟨fun i H4 g hi => ?_, fun i H4 x H5 g hi y => ?_, fun i H4 g hi => ?_⟩⟩
    · have hx : i < xs.length := by rw [pLen hp]; exact hi
      exact ⟨xs, xs[i], .inl (rdMo g hc), List.getElem?_eq_getElem hx⟩
    · obtain ⟨T, x', rfl, hT, rfl, y1⟩ := y
      have y1 := y1 _ (.inl (rdMo g hc))
      obtain ⟨w, h1, h2⟩ := pAt hp (List.getElem?_eq_getElem hi)
      rw [h1] at y1
      cases y1
      exact ⟨exNew hT, (_, ds[i]), by rw [numAt, List.getElem?_eq_getElem hi]; rfl, T, _, _, rfl, .inl upd_same, rfl, m.mo (g.trans (exNew hT)) h2⟩
    · exact ⟨xs, .inl (rdMo g hc), by rw [pLen hp]; exact hi⟩)
/-- .. a list that stands -/
theorem mi_enumL [m : MoR R] {elts : List Expr} {kk : Nat} {tpos : Pos} (hm : X.mg "enumerate" = none) (ha : ME X a σ H (Is v)) (ht : Li R ds v H) (hg : Gl X "enumerate" := by rfl)
    (hs : starEach [a] X.env = (false, eval a X.env) :: starEach [] X.env := by rfl) (hs2 : starEach [a] X.env = [(false, eval a X.env)] := by rfl) :
    MI X (.Tuple elts kk tpos) (.Call (.Name "enumerate" p) [a] [] pos) σ H (numbered ds).length (At (Pr RI R) (numbered ds)) := numLen ds ▸ fun H1 x1 R0 z =>
  .of (pi_enum hg hm (pa_cons pe_we pa_nil hs) hs2) (ha H1 x1 _ fun u H2 x2 e => by
    have e' : u = v := e
    subst e'
    obtain ⟨c, xs, rfl, hc, hp⟩ := ht
    refine ⟨c, xs, rfl, SqL.of ((x1.trans x2) _ _ hc), z _ H2 (Ex H) x2 (x1.trans x2) holdsBase ⟨fun i H4 g hi => ?_, fun i H4 x H5 g hi y => ?_, fun i H4 g hi => ?_⟩⟩
    · have hx : i < xs.length := by rw [pLen hp]; exact hi
      exact ⟨xs, xs[i], SqL.of (g _ _ hc), List.getElem?_eq_getElem hx⟩
    · obtain ⟨T, x', rfl, hT, rfl, y1⟩ := y
      have y1 := y1 _ (SqL.of (g _ _ hc))
      obtain ⟨w, h1, h2⟩ := pAt hp (List.getElem?_eq_getElem hi)
      rw [h1] at y1
      cases y1
      exact ⟨exNew hT, (_, ds[i]), by rw [numAt, List.getElem?_eq_getElem hi]; rfl, T, _, _, rfl, .inl upd_same, rfl, m.mo (g.trans (exNew hT)) h2⟩
    · exact ⟨xs, SqL.of (g _ _ hc), by rw [pLen hp]; exact hi⟩)
end
end Wk
set_option Elab.async false
set_option linter.all false
set_option maxRecDepth 100000
set_option maxHeartbeats 4000000
/-! Comprehensions whose target is two names, three names. -/
namespace Wk
open PySem PySem.Spec PyProof.Rows L2
theorem setC {σ : L2.St} {i j : Nat} (h : i ≠ j) {u w : Option V} : (σ.set i u).set j w = (σ.set j w).set i u := List.set_comm u w h
theorem setIJ {σ : L2.St} {i j : Nat} (h : i ≠ j) {u w : Option V} : (((σ.set j none).set i none).set i u).set j w = (σ.set i u).set j w := by
  rw [List.set_set, setC (σ := σ) h.symm, List.set_set]
theorem wipeIJ {σ : L2.St} {i j : Nat} (h : i ≠ j) {u w : Option V} : (((σ.set i u).set j w).set j none).set i none = (σ.set j none).set i none := by
  rw [List.set_set, setC (σ := σ) h, List.set_set]
section
variable {X : Cx} {iter elt c : Expr} {scope : Scope} {σ : L2.St} {H : Hp} {pos spos py px1 px2 px3 pt : Pos} {α β : Type} {R : Rp α} {S : Rp β} {ds : List α} {x y z : Str} {kt : Nat} {Y : α → V → V → Hp → Prop} {Y3 : α → V → V → V → Hp → Prop}
/-- a value of R is a pair, its items as Y says -/
def IsPr {α : Type} (R : Rp α) (Y : α → V → V → Hp → Prop) (d : α) : Prop := ∀ v H, R d v H → ∃ T u w, v = .ref T ∧ Rd H T (.tup [u, w]) ∧ Y d u w H
def IsTr {α : Type} (R : Rp α) (Y : α → V → V → V → Hp → Prop) (d : α) : Prop := ∀ v H, R d v H → ∃ T u w z, v = .ref T ∧ Rd H T (.tup [u, w, z]) ∧ Y d u w z H
abbrev NameIn (X : Cx) (scope : Scope) (x : Str) : Prop := inBlk X scope fun Z => Loc Z.env.scope x ∧ (Z.fn x = true ∨ Z.env.scope.names.lookup x = some .local)
theorem mgPair {i j : Nat} (hij : i ≠ j) {T : Addr} {u w : V} {H3 : Hp} (ht : Rd H3 T (.tup [u, w])) (hN : X.N.Nodup) (hi : X.N[i]? = some x) (hj : X.N[j]? = some y) (hx : NameIn X scope x) (hy : NameIn X scope y) (hc : X.calm = true)
    (hn : inBlk X scope fun Z => (assignEach [.Name x px1, .Name y px2] Z.env).length = 2) (hst : inBlk X scope fun Z => (assignEach [.Name x px1, .Name y px2] Z.env).findIdx? (·.1) = none)
    (hs1 : inBlk X scope fun Z => (assignEach [.Name x px1, .Name y px2] Z.env).map (·.2) = assign (.Name x px1) Z.env :: (assignEach [.Name y px2] Z.env).map (·.2)) (hs2 : inBlk X scope fun Z => (assignEach [.Name y px2] Z.env).map (·.2) = assign (.Name y px2) Z.env :: (assignEach [] Z.env).map (·.2)) :
    inBlk X scope fun Z => MG Z (.Tuple [.Name x px1, .Name y px2] kt pt) (.ref T) ((σ.set j none).set i none) H3 ((σ.set i (some u)).set j (some w)) := fun s H0 C cl fp => by
  have e := mg_tup (X := X.blk s H0 scope (compEnvC scope cl C X.env) fp) (k := kt) (pos := pt) hc ht rfl (mgs_cons (mg_name i hN hi (hx s H0 C cl fp).1 (hx s H0 C cl fp).2 (pos := px1)) (mgs_cons (mg_name j hN hj (hy s H0 C cl fp).1 (hy s H0 C cl fp).2 (pos := px2)) mgs_nil (hs2 s H0 C cl fp)) (hs1 s H0 C cl fp)) (hn s H0 C cl fp) (hst s H0 C cl fp) (σ := (σ.set j none).set i none) (H := H3)
  rw [setIJ hij] at e
  exact e
theorem mn_p0 [Im S] (i j : Nat) (Y : α → V → V → Hp → Prop) (mi : MI X (.Tuple [.Name x px1, .Name y px2] kt pt) iter σ H ds.length (At R ds)) (pr : ∀ d ∈ ds, IsPr R Y d) (f : α → β) (small : ds.length < sizeLine) (hij : i ≠ j)
    (turn : ∀ d u w H3, d ∈ ds → Ex H H3 → Y d u w H3 → inBlk X scope fun Z => ME Z elt ((σ.set i (some u)).set j (some w)) H3 (S (f d)))
    (hN : X.N.Nodup) (ok : BlkOk X.N X.env.scope scope [(x, i), (y, j)]) (hx : NameIn X scope x := by intro _ _ _ _ _; exact ⟨by first | exact Or.inl rfl | exact Or.inr rfl, by first | exact Or.inl rfl | exact Or.inr rfl⟩)
    (hy : NameIn X scope y := by intro _ _ _ _ _; exact ⟨by first | exact Or.inl rfl | exact Or.inr rfl, by first | exact Or.inl rfl | exact Or.inr rfl⟩)
    (hn : inBlk X scope fun Z => (assignEach [.Name x px1, .Name y px2] Z.env).length = 2 := by intro _ _ _ _ _; rfl) (hst : inBlk X scope fun Z => (assignEach [.Name x px1, .Name y px2] Z.env).findIdx? (·.1) = none := by intro _ _ _ _ _; rfl)
    (hs1 : inBlk X scope fun Z => (assignEach [.Name x px1, .Name y px2] Z.env).map (·.2) = assign (.Name x px1) Z.env :: (assignEach [.Name y px2] Z.env).map (·.2) := by intro _ _ _ _ _; rfl) (hs2 : inBlk X scope fun Z => (assignEach [.Name y px2] Z.env).map (·.2) = assign (.Name y px2) Z.env :: (assignEach [] Z.env).map (·.2) := by intro _ _ _ _ _; rfl)
    (hc : X.calm = true := by rfl) (hs : ∀ x, foldedSetIterable iter X.env x = pure x := by intro _; rfl) : MN X (.ListComp elt [⟨.Tuple [.Name x px1, .Name y px2] kt pt, iter, [], 0⟩] scope pos) σ H (Li S (ds.map f)) :=
  mn_lc0 [(x, i), (y, j)] mi f small (fun d v H3 hd x3 r => by
    obtain ⟨T, u, w, rfl, h1, h2⟩ := pr d hd v H3 r
    exact ⟨(σ.set i (some u)).set j (some w), mgPair hij h1 hN (ok.ix _ List.mem_cons_self) (ok.ix _ (List.mem_cons_of_mem _ List.mem_cons_self)) hx hy hc hn hst hs1 hs2, turn d u w H3 hd x3 h2, wipeIJ hij⟩) hN ok hc hs
theorem mn_p1 [Im S] (i j : Nat) (Y : α → V → V → Hp → Prop) (mi : MI X (.Tuple [.Name x px1, .Name y px2] kt pt) iter σ H ds.length (At R ds)) (pr : ∀ d ∈ ds, IsPr R Y d) (p : α → Bool) (f : α → β) (small : ds.length < sizeLine) (hij : i ≠ j)
    (turn : ∀ d u w H3, d ∈ ds → Ex H H3 → Y d u w H3 → (inBlk X scope fun Z => MT Z c ((σ.set i (some u)).set j (some w)) H3 (p d)) ∧ (p d = true → inBlk X scope fun Z => ME Z elt ((σ.set i (some u)).set j (some w)) H3 (S (f d))))
    (hN : X.N.Nodup) (ok : BlkOk X.N X.env.scope scope [(x, i), (y, j)]) (hx : NameIn X scope x := by intro _ _ _ _ _; exact ⟨by first | exact Or.inl rfl | exact Or.inr rfl, by first | exact Or.inl rfl | exact Or.inr rfl⟩)
    (hy : NameIn X scope y := by intro _ _ _ _ _; exact ⟨by first | exact Or.inl rfl | exact Or.inr rfl, by first | exact Or.inl rfl | exact Or.inr rfl⟩)
    (hn : inBlk X scope fun Z => (assignEach [.Name x px1, .Name y px2] Z.env).length = 2 := by intro _ _ _ _ _; rfl) (hst : inBlk X scope fun Z => (assignEach [.Name x px1, .Name y px2] Z.env).findIdx? (·.1) = none := by intro _ _ _ _ _; rfl)
    (hs1 : inBlk X scope fun Z => (assignEach [.Name x px1, .Name y px2] Z.env).map (·.2) = assign (.Name x px1) Z.env :: (assignEach [.Name y px2] Z.env).map (·.2) := by intro _ _ _ _ _; rfl) (hs2 : inBlk X scope fun Z => (assignEach [.Name y px2] Z.env).map (·.2) = assign (.Name y px2) Z.env :: (assignEach [] Z.env).map (·.2) := by intro _ _ _ _ _; rfl)
    (hc : X.calm = true := by rfl) (hs : ∀ x, foldedSetIterable iter X.env x = pure x := by intro _; rfl) : MN X (.ListComp elt [⟨.Tuple [.Name x px1, .Name y px2] kt pt, iter, [c], 0⟩] scope pos) σ H (Li S ((ds.filter p).map f)) :=
  mn_lc1 [(x, i), (y, j)] mi p f small (fun d v H3 hd x3 r => by
    obtain ⟨T, u, w, rfl, h1, h2⟩ := pr d hd v H3 r
    exact ⟨(σ.set i (some u)).set j (some w), mgPair hij h1 hN (ok.ix _ List.mem_cons_self) (ok.ix _ (List.mem_cons_of_mem _ List.mem_cons_self)) hx hy hc hn hst hs1 hs2, (turn d u w H3 hd x3 h2).1, (turn d u w H3 hd x3 h2).2, wipeIJ hij⟩) hN ok hc hs
theorem ws_p0 [Im S] {D : Ends} {l : Nat} {yl : Str} (i j : Nat) (Y : α → V → V → Hp → Prop) (mi : MI X (.Tuple [.Name x px1, .Name y px2] kt pt) iter σ H ds.length (At R ds)) (pr : ∀ d ∈ ds, IsPr R Y d) (f : α → β) (small : ds.length < sizeLine) (hij : i ≠ j)
    (turn : ∀ d u w H3, d ∈ ds → Ex H H3 → Y d u w H3 → inBlk X scope fun Z => ME Z elt ((σ.set i (some u)).set j (some w)) H3 (S (f d)))
    (next : ∀ a H2, H a = none → Ex H H2 → Li S (ds.map f) (.ref a) H2 → D.nx (σ.set l (some (.ref a))) H2)
    (hN : X.N.Nodup) (ok : BlkOk X.N X.env.scope scope [(x, i), (y, j)]) (hyi : X.N[l]? = some yl := by rfl) (hyl : X.env.scope.names.lookup yl = some .local := by rfl) (hsw : swapsWith (.ListComp elt [⟨.Tuple [.Name x px1, .Name y px2] kt pt, iter, [], 0⟩] scope pos) (some (.Name yl py)) spos.line X.env = pure true := by exact sw_true rfl rfl rfl (by decide +kernel))
    (hx : NameIn X scope x := by intro _ _ _ _ _; exact ⟨by first | exact Or.inl rfl | exact Or.inr rfl, by first | exact Or.inl rfl | exact Or.inr rfl⟩)
    (hy : NameIn X scope y := by intro _ _ _ _ _; exact ⟨by first | exact Or.inl rfl | exact Or.inr rfl, by first | exact Or.inl rfl | exact Or.inr rfl⟩)
    (hn : inBlk X scope fun Z => (assignEach [.Name x px1, .Name y px2] Z.env).length = 2 := by intro _ _ _ _ _; rfl) (hst : inBlk X scope fun Z => (assignEach [.Name x px1, .Name y px2] Z.env).findIdx? (·.1) = none := by intro _ _ _ _ _; rfl)
    (hs1 : inBlk X scope fun Z => (assignEach [.Name x px1, .Name y px2] Z.env).map (·.2) = assign (.Name x px1) Z.env :: (assignEach [.Name y px2] Z.env).map (·.2) := by intro _ _ _ _ _; rfl) (hs2 : inBlk X scope fun Z => (assignEach [.Name y px2] Z.env).map (·.2) = assign (.Name y px2) Z.env :: (assignEach [] Z.env).map (·.2) := by intro _ _ _ _ _; rfl)
    (hc : X.calm = true := by rfl) (hs : ∀ x, foldedSetIterable iter X.env x = pure x := by intro _; rfl) : WS X (.Assign [.Name yl py] (.ListComp elt [⟨.Tuple [.Name x px1, .Name y px2] kt pt, iter, [], 0⟩] scope pos) spos) D σ H :=
  ws_lc0 (S := S) l [(x, i), (y, j)] mi f small (fun d v H3 hd x3 r => by
    obtain ⟨T, u, w, rfl, h1, h2⟩ := pr d hd v H3 r
    exact ⟨(σ.set i (some u)).set j (some w), mgPair hij h1 hN (ok.ix _ List.mem_cons_self) (ok.ix _ (List.mem_cons_of_mem _ List.mem_cons_self)) hx hy hc hn hst hs1 hs2, turn d u w H3 hd x3 h2, wipeIJ hij⟩) next hN ok hyi hyl hsw hc hs

/-! ### three names -/
theorem setIJK {σ : L2.St} {i j k : Nat} (h : i ≠ j) (h1 : i ≠ k) (h2 : j ≠ k) {u w z : Option V} : (((((σ.set k none).set j none).set i none).set i u).set j w).set k z = ((σ.set i u).set j w).set k z := by
  rw [setIJ h, setC (σ := σ) h1.symm, setC (σ := σ.set i u) h2.symm, List.set_set]
theorem wipeIJK {σ : L2.St} {i j k : Nat} (h : i ≠ j) (h1 : i ≠ k) (h2 : j ≠ k) {u w z : Option V} : (((((σ.set i u).set j w).set k z).set k none).set j none).set i none = ((σ.set k none).set j none).set i none := by
  rw [List.set_set, setC (σ := σ.set i u) h2, setC (σ := σ) h1, wipeIJ h]
theorem mgTri {i j k : Nat} (hij : i ≠ j) (hik : i ≠ k) (hjk : j ≠ k) {T : Addr} {u w q : V} {H3 : Hp} (ht : Rd H3 T (.tup [u, w, q])) (hN : X.N.Nodup) (hi : X.N[i]? = some x) (hj : X.N[j]? = some y) (hk : X.N[k]? = some z) (hx : NameIn X scope x) (hy : NameIn X scope y) (hz : NameIn X scope z) (hc : X.calm = true)
    (hn : inBlk X scope fun Z => (assignEach [.Name x px1, .Name y px2, .Name z px3] Z.env).length = 3) (hst : inBlk X scope fun Z => (assignEach [.Name x px1, .Name y px2, .Name z px3] Z.env).findIdx? (·.1) = none)
    (hs1 : inBlk X scope fun Z => (assignEach [.Name x px1, .Name y px2, .Name z px3] Z.env).map (·.2) = assign (.Name x px1) Z.env :: (assignEach [.Name y px2, .Name z px3] Z.env).map (·.2))
    (hs2 : inBlk X scope fun Z => (assignEach [.Name y px2, .Name z px3] Z.env).map (·.2) = assign (.Name y px2) Z.env :: (assignEach [.Name z px3] Z.env).map (·.2)) (hs3 : inBlk X scope fun Z => (assignEach [.Name z px3] Z.env).map (·.2) = assign (.Name z px3) Z.env :: (assignEach [] Z.env).map (·.2)) :
    inBlk X scope fun Z => MG Z (.Tuple [.Name x px1, .Name y px2, .Name z px3] kt pt) (.ref T) (((σ.set k none).set j none).set i none) H3 (((σ.set i (some u)).set j (some w)).set k (some q)) := fun s H0 C cl fp => by
  have e := mg_tup (X := X.blk s H0 scope (compEnvC scope cl C X.env) fp) (k := kt) (pos := pt) hc ht rfl (mgs_cons (mg_name i hN hi (hx s H0 C cl fp).1 (hx s H0 C cl fp).2 (pos := px1)) (mgs_cons (mg_name j hN hj (hy s H0 C cl fp).1 (hy s H0 C cl fp).2 (pos := px2)) (mgs_cons (mg_name k hN hk (hz s H0 C cl fp).1 (hz s H0 C cl fp).2 (pos := px3)) mgs_nil (hs3 s H0 C cl fp)) (hs2 s H0 C cl fp)) (hs1 s H0 C cl fp)) (hn s H0 C cl fp) (hst s H0 C cl fp) (σ := ((σ.set k none).set j none).set i none) (H := H3)
  rw [setIJK hij hik hjk] at e
  exact e
theorem mn_t0 [Im S] (i j k : Nat) (Y3 : α → V → V → V → Hp → Prop) (mi : MI X (.Tuple [.Name x px1, .Name y px2, .Name z px3] kt pt) iter σ H ds.length (At R ds)) (pr : ∀ d ∈ ds, IsTr R Y3 d) (f : α → β) (small : ds.length < sizeLine) (hij : i ≠ j) (hik : i ≠ k) (hjk : j ≠ k)
    (turn : ∀ d u w q H3, d ∈ ds → Ex H H3 → Y3 d u w q H3 → inBlk X scope fun Z => ME Z elt (((σ.set i (some u)).set j (some w)).set k (some q)) H3 (S (f d)))
    (hN : X.N.Nodup) (ok : BlkOk X.N X.env.scope scope [(x, i), (y, j), (z, k)]) (hx : NameIn X scope x := by intro _ _ _ _ _; exact ⟨by first | exact Or.inl rfl | exact Or.inr rfl, by first | exact Or.inl rfl | exact Or.inr rfl⟩)
    (hy : NameIn X scope y := by intro _ _ _ _ _; exact ⟨by first | exact Or.inl rfl | exact Or.inr rfl, by first | exact Or.inl rfl | exact Or.inr rfl⟩)
    (hz : NameIn X scope z := by intro _ _ _ _ _; exact ⟨by first | exact Or.inl rfl | exact Or.inr rfl, by first | exact Or.inl rfl | exact Or.inr rfl⟩)
    (hn : inBlk X scope fun Z => (assignEach [.Name x px1, .Name y px2, .Name z px3] Z.env).length = 3 := by intro _ _ _ _ _; rfl) (hst : inBlk X scope fun Z => (assignEach [.Name x px1, .Name y px2, .Name z px3] Z.env).findIdx? (·.1) = none := by intro _ _ _ _ _; rfl)
    (hs1 : inBlk X scope fun Z => (assignEach [.Name x px1, .Name y px2, .Name z px3] Z.env).map (·.2) = assign (.Name x px1) Z.env :: (assignEach [.Name y px2, .Name z px3] Z.env).map (·.2) := by intro _ _ _ _ _; rfl)
    (hs2 : inBlk X scope fun Z => (assignEach [.Name y px2, .Name z px3] Z.env).map (·.2) = assign (.Name y px2) Z.env :: (assignEach [.Name z px3] Z.env).map (·.2) := by intro _ _ _ _ _; rfl) (hs3 : inBlk X scope fun Z => (assignEach [.Name z px3] Z.env).map (·.2) = assign (.Name z px3) Z.env :: (assignEach [] Z.env).map (·.2) := by intro _ _ _ _ _; rfl)
    (hc : X.calm = true := by rfl) (hs : ∀ x, foldedSetIterable iter X.env x = pure x := by intro _; rfl) : MN X (.ListComp elt [⟨.Tuple [.Name x px1, .Name y px2, .Name z px3] kt pt, iter, [], 0⟩] scope pos) σ H (Li S (ds.map f)) :=
  mn_lc0 [(x, i), (y, j), (z, k)] mi f small (fun d v H3 hd x3 r => by
    obtain ⟨T, u, w, q, rfl, h1, h2⟩ := pr d hd v H3 r
    exact ⟨((σ.set i (some u)).set j (some w)).set k (some q), mgTri hij hik hjk h1 hN (ok.ix _ List.mem_cons_self) (ok.ix _ (List.mem_cons_of_mem _ List.mem_cons_self)) (ok.ix _ (List.mem_cons_of_mem _ (List.mem_cons_of_mem _ List.mem_cons_self))) hx hy hz hc hn hst hs1 hs2 hs3, turn d u w q H3 hd x3 h2, wipeIJK hij hik hjk⟩) hN ok hc hs
theorem prPr {α β : Type} {R : Rp α} {S : Rp β} (d : α × β) : IsPr (Pr R S) (fun d u w H => R d.1 u H ∧ S d.2 w H) d := fun v H ⟨a, u, w, h1, h2, h3⟩ => ⟨a, u, w, h1, h2, h3⟩
theorem prTu {α : Type} {R : Rp α} (a b : α) : IsPr (Tu R) (fun d u w H => ∃ a b, d = [a, b] ∧ R a u H ∧ R b w H) [a, b] := fun v H ⟨c, xs, h1, h2, h3⟩ => by
  cases h3 with
  | cons r t =>
    cases t with
    | cons r' t =>
      cases t
      exact ⟨c, _, _, h1, h2, a, b, rfl, r, r'⟩
theorem trRE (d : Led) : IsTr RE (fun d u w z H => u = .int d.1 ∧ w = .int d.2.1 ∧ z = .int d.2.2) d := fun v H h => by
  obtain ⟨c, h1, h2⟩ := tuI.mp (show Tu RI _ v H from h)
  exact ⟨c, _, _, _, h1, h2, rfl, rfl, rfl⟩
end
end Wk
set_option Elab.async false
set_option linter.all false
set_option maxRecDepth 100000
set_option maxHeartbeats 4000000
/-! On sticks, in bundles, fits. -/
namespace Wk
open PySem PySem.Spec PyProof.Rows L2
section
variable {P : Program} {w : World} {K : PySem.W.Frag} {mg : Str → Option Value} {base : Heap}
def together (side order : List Int) : Bool := ((order.zip (order.drop 1)).map fun d => decide (d.1 ∈ side) && decide (d.2 ∈ side)).any id
def onSide (order side : List Int) : Bool := decide (order.filter (fun t => decide (t ∈ side)) = side) && !together side order
def onSticks (order : List Int) (cross : List (List Int)) : Bool := cross.all (onSide order)
abbrev spSticks : Sp := SpD (δ := List Int × List (List Int)) (fun d => [Tu RI d.1, Tu (Tu RI) d.2]) (fun d => d.1.length ≤ 900) fun d => Is (.bl (onSticks d.1 d.2))
abbrev nSticks : List Str := ["order", "cross", "side", "thread", "one", "other"]
theorem scSticks : FnScope nSticks ["order", "cross"] (defScope sIsOnSticks) := ⟨rfl, rfl, rfl, by decide +kernel, rfl, by decide +kernel, by decide +kernel⟩
theorem allAt {α : Type} {l : List α} {p : α → Bool} {i : Nat} {d : α} (h : l[i]? = some d) (hp : (l.take i).all p = true) : (l.take (i + 1)).all p = p d := by
  rw [List.take_add_one, h, List.all_append, hp]
  simp
theorem allNo {α : Type} {l : List α} {p : α → Bool} {i : Nat} {d : α} (h : l[i]? = some d) (hp : p d = false) : l.all p = false := by
  rw [List.all_eq_false]
  exact ⟨d, List.mem_of_getElem? h, by rw [hp]; decide⟩
theorem hSticks (B : Bl mg) (D : Df K mg "is_on_sticks" sIsOnSticks) : Has P w K mg base CX0 "is_on_sticks" 1 ["order", "cross"] spSticks :=
  .mkD D scSticks (fun _ _ _ _ _ _ us hl => match us, hl with | [_, _], _ => rfl) (fun _ => rfl) fun f cdv A outer s H vs Q E d hr ho ha q => by
    obtain ⟨v, u, rfl, h1, h2⟩ := p2 ha
    refine wss_cons (ws_for (fun _ => False) (fun i σ H3 => ∃ g, σ = [some v, some u, g, none, none, none] ∧ Ex H H3 ∧ (d.2.take i).all (onSide d.1) = true) (mi_tup (me_var 1) h2) (exr H) (fun b e => e.elim) PassesOwn.never rfl
      (fun H2 x2 => ⟨none, rfl, x2, rfl⟩) (fun i x σ H3 H4 hi ⟨g, e, b3, hp⟩ x4 ⟨side, ho', r⟩ => ?_) fun σ H3 ⟨g, e, b3, hp⟩ => ?_)
    · subst e
      refine wg_name 2 scSticks.nd ?_
      have hv := MoR.mo (R := Tu RI) (b3.trans x4) h1
      refine wss_cons (ws_if (MT.wt (mt_neD encT hr.units (me_tuL B (mn_n1 (R := RI) (S := RI) 3 (mi_tup (me_var 0) hv) (fun t => decide (t ∈ side)) (fun n => n) (small1000 (Nat.le_trans ho (by decide))) (fun n x H3 hn x3 r3 => ⟨?_, fun _ => ?_⟩) scSticks.nd (blkOk_by (N := nSticks) (sc := defScope sIsOnSticks) (by decide +kernel))).me).me (me_is (me_var 2) r)) fun H5 x5 => ?_))
      · intro _ _ _ _ _
        exact mt_inT (me_is (me_var 3) r3) (me_is (me_var 2) (MoR.mo (R := Tu RI) x3 r))
      · intro _ _ _ _ _
        exact me_is (me_var 3) r3
      rw [filterMapId]
      by_cases h : d.1.filter (fun t => decide (t ∈ side)) = side
      · rw [decide_eq_true h]
        refine iteF (wss_nil ?_)
        have hv5 := MoR.mo (R := Tu RI) x5 hv
        have r5 := MoR.mo (R := Tu RI) x5 r
        refine wss_one (ws_if (MT.wt (mt_val (me_any B rfl (mn_p0 (R := Pr RI RI) (S := RB) 4 5 _ (mi_zip B.zip (mf_is (me_var 0) hv5) (mf_drop (k := 1) (me_var 0) hv5 me_int)) (fun d _ => prPr d) (fun d => decide (d.1 ∈ side) && decide (d.2 ∈ side)) (small1000 ?_) (by decide)
          (fun d u w H3 hd x3 y => ?_) scSticks.nd (blkOk_by (N := nSticks) (sc := defScope sIsOnSticks) (by decide +kernel))).me)) fun H6 x6 => ?_))
        · rw [List.length_zip]
          omega
        · intro _ _ _ _ _
          exact me_and (me_inT (me_is (me_var 4) y.1) (me_is (me_var 2) (MoR.mo (R := Tu RI) x3 r5))) fun _ => me_one (me_inT (me_is (me_var 5) y.2) (me_is (me_var 2) (MoR.mo (R := Tu RI) x3 r5)))
        cases ht : ((d.1.zip (d.1.drop 1)).map fun d => decide (d.1 ∈ side) && decide (d.2 ∈ side)).any id with
        | true =>
          refine iteT (wss_one (ws_ret (ME.we me_bl fun z H7 x7 p => q z H7 (b3.trans (x4.trans (x5.trans (x6.trans x7)))) ?_)))
          have e : z = .bl false := p
          rw [e]
          have no : onSticks d.1 d.2 = false := allNo ho' (by
            unfold onSide together
            rw [ht]
            simp)
          rw [no]
          rfl
        | false =>
          refine iteF (wss_nil ⟨⟨_, rfl, b3.trans (x4.trans (x5.trans x6)), ?_⟩, ExB.of (x4.trans (x5.trans x6))⟩)
          rw [allAt ho' hp]
          unfold onSide together
          rw [ht, decide_eq_true h]
          rfl
      · rw [decide_eq_false h]
        refine iteT (wss_one (ws_ret (ME.we me_bl fun z H7 x7 p => q z H7 (b3.trans (x4.trans (x5.trans x7))) ?_)))
        have e : z = .bl false := p
        rw [e]
        have no : onSticks d.1 d.2 = false := allNo ho' (by
          unfold onSide
          rw [decide_eq_false h]
          rfl)
        rw [no]
        rfl
    · subst e
      rw [List.take_length] at hp
      refine wss_one (ws_ret (ME.we me_bl fun z H7 x7 p => q z H7 (b3.trans x7) ?_))
      have e : z = .bl true := p
      rw [e]
      have yes : onSticks d.1 d.2 = true := hp
      rw [yes]
      rfl
end
end Wk
set_option Elab.async false
set_option linter.all false
set_option maxRecDepth 100000
set_option maxHeartbeats 4000000
/-! Dicts whose keys are whole numbers. -/
namespace Wk
open PySem PySem.Spec PyProof.Rows L2
def lk {β : Type} (ds : List (Int × β)) (k : Int) : Option β := (ds.find? fun d => decide (d.1 = k)).map (·.2)
/-- a dict with these keys and values, in this order -/
def Dn {β : Type} (S : Rp β) : Rp (List (Int × β)) := fun ds v H => ∃ (a : Addr) (kvs : List (Key × V)), v = .ref a ∧ H a = some (.dK kvs) ∧ Paired (fun kv d => kv.1 = .inl d.1 ∧ S d.2 kv.2 H) kvs ds
instance {β : Type} {S : Rp β} [m : MoR S] : MoR (Dn S) := ⟨fun e ⟨a, kvs, h1, h2, h3⟩ => ⟨a, kvs, h1, e _ _ h2, pImp (fun _ _ ⟨p, q⟩ => ⟨p, m.mo e q⟩) h3⟩⟩
section
variable {β : Type} {S : Rp β} {H : Hp}
theorem lkNil {k : Int} : lk ([] : List (Int × β)) k = none := rfl
theorem lkCons {d : Int × β} {ds : List (Int × β)} {k : Int} : lk (d :: ds) k = if d.1 = k then some d.2 else lk ds k := by
  unfold lk
  rw [List.find?_cons]
  by_cases h : d.1 = k
  · rw [decide_eq_true h, if_pos h]
    rfl
  · rw [decide_eq_false h, if_neg h]
theorem keyNe {i k : Int} (h : i ≠ k) : ¬ (.inl i : Key) = .inl k := fun e => h (Sum.inl.inj e)
theorem valNone {kvs : List (Key × V)} {ds : List (Int × β)} {k : Int} (h : Paired (fun kv d => kv.1 = .inl d.1 ∧ S d.2 kv.2 H) kvs ds) (hk : lk ds k = none) : valV kvs (.inl k) = none := by
  induction h with
  | nil => rfl
  | @cons p d ps ds r t ih =>
    rw [lkCons] at hk
    by_cases e : d.1 = k
    · rw [if_pos e] at hk
      cases hk
    · rw [if_neg e] at hk
      rw [valV_neg (by rw [r.1]; exact keyNe e)]
      exact ih hk
theorem valSome {kvs : List (Key × V)} {ds : List (Int × β)} {k : Int} {b : β} (h : Paired (fun kv d => kv.1 = .inl d.1 ∧ S d.2 kv.2 H) kvs ds) (hk : lk ds k = some b) : ∃ v, valV kvs (.inl k) = some v ∧ S b v H := by
  induction h with
  | nil => cases hk
  | @cons p d ps ds r t ih =>
    rw [lkCons] at hk
    by_cases e : d.1 = k
    · rw [if_pos e] at hk
      cases hk
      exact ⟨p.2, valV_pos (by rw [r.1, e]), r.2⟩
    · rw [if_neg e] at hk
      rw [valV_neg (by rw [r.1]; exact keyNe e)]
      exact ih hk
theorem valIs {kvs : List (Key × V)} {ds : List (Int × β)} {k : Int} (h : Paired (fun kv d => kv.1 = .inl d.1 ∧ S d.2 kv.2 H) kvs ds) : (valV kvs (.inl k)).isSome = (lk ds k).isSome := by
  cases e : lk ds k with
  | none => rw [valNone h e]
            rfl
  | some b =>
    obtain ⟨v, h1, _⟩ := valSome h e
    rw [h1]
    rfl
theorem lkNone {ds : List (Int × β)} {k : Int} (h : k ∉ ds.map (·.1)) : lk ds k = none := by
  induction ds with
  | nil => rfl
  | cons d ds ih =>
    rw [List.map_cons, List.mem_cons, not_or] at h
    rw [lkCons, if_neg (fun e => h.1 e.symm)]
    exact ih h.2
/-- new keys come behind -/
theorem mergeApp {more : List (Key × V)} {es : List (Int × β)} (hm : Paired (fun kv d => kv.1 = .inl d.1 ∧ S d.2 kv.2 H) more es) : ∀ {kvs : List (Key × V)} {ds : List (Int × β)}, Paired (fun kv d => kv.1 = .inl d.1 ∧ S d.2 kv.2 H) kvs ds → ((ds ++ es).map (·.1)).Nodup → mergeK kvs more = kvs ++ more := by
  induction hm with
  | nil =>
    intro kvs ds h n
    rw [List.append_nil]
    rfl
  | @cons p d ps es r t ih =>
    intro kvs ds h n
    show mergeK (putK kvs p.1 p.2) ps = _
    have n1 : d.1 ∉ ds.map (·.1) := fun q => by
      rw [List.map_append, List.map_cons] at n
      exact (List.nodup_append.mp n).2.2 d.1 q d.1 List.mem_cons_self rfl
    rw [putK_new p.2 (by rw [r.1]; exact valNone h (lkNone n1)), ih (ds := ds ++ [d]) (pApp h (.cons r .nil)) (by rw [List.append_assoc]; exact n), List.append_assoc]
    rfl
end

/-! ### what is done with them -/
section
variable {X : Cx} {a b e o : Expr} {σ : L2.St} {H : Hp} {pos p apos : Pos} {β : Type} {S : Rp β} {ds es : List (Int × β)} {k : Int} {d : β}
theorem me_dget [m : MoR S] (hu : X.A.units + 1 < cLine) (ha : ME X a σ H (Dn S ds)) (hb : ME X b σ H (Is (.int k))) (hd : lk ds k = some d) (hs : NoSl b := by exact fun _ _ => rfl) : ME X (.Subscript a b pos) σ H (S d) := fun H1 x1 Q q =>
  .of (pe_dget hu pe_we pe_we hs) (ha H1 x1 _ fun v H2 x2 t => hb H2 (x1.trans x2) _ fun u H3 x3 p => by
    obtain ⟨c, kvs, rfl, h1, h2⟩ := (MoR.mo (R := Dn S) x3 t)
    obtain ⟨v, h3, h4⟩ := valSome h2 hd
    exact ⟨c, v, rfl, .inl ⟨kvs, .inl k, .inl h1, p, h3.symm⟩, q v H3 (x2.trans x3) h4⟩)
theorem mt_dIn [m : MoR S] (hu : X.A.units + 1 < cLine) (ha : ME X a σ H (Is (.int k))) (hb : ME X b σ H (Dn S ds)) (hm : behindInMarks .In b = false := by rfl) : MT X (.Compare a [.In] [b] pos) σ H (lk ds k).isSome := fun H1 x1 Q q =>
  .of (pt_cmp (h1 := hm) (pc_din hu pe_we pe_we)) (ha H1 x1 _ fun u H2 x2 p => hb H2 (x1.trans x2) _ fun v H3 x3 t => by
    obtain ⟨c, kvs, rfl, h1, h2⟩ := t
    exact ⟨c, _, rfl, .inl ⟨kvs, .inl k, .inl h1, p, rfl⟩, _, rfl, by rw [valIs h2]; exact q H3 (x2.trans x3)⟩)
theorem mt_dNot [m : MoR S] (hu : X.A.units + 1 < cLine) (ha : ME X a σ H (Is (.int k))) (hb : ME X b σ H (Dn S ds)) (hm : behindInMarks .NotIn b = false := by rfl) : MT X (.Compare a [.NotIn] [b] pos) σ H (!(lk ds k).isSome) := fun H1 x1 Q q =>
  .of (pt_cmp (h1 := hm) (pc_dnotin hu pe_we pe_we)) (ha H1 x1 _ fun u H2 x2 p => hb H2 (x1.trans x2) _ fun v H3 x3 t => by
    obtain ⟨c, kvs, rfl, h1, h2⟩ := t
    exact ⟨c, _, rfl, .inl ⟨kvs, .inl k, .inl h1, p, rfl⟩, _, rfl, by rw [valIs h2]; exact q H3 (x2.trans x3)⟩)
theorem callLenD : CallR X (.builtin "len") (fun xs H Q => ∃ q kvs, xs = [.ref q] ∧ H q = some (.dK kvs) ∧ Q (.int kvs.length) H) := by
  intro pins s σ H xs us Q I r h
  obtain ⟨q, kvs, rfl, h1, h2⟩ := h
  obtain ⟨u, rfl, rx⟩ := vals1 r
  cases rx
  exact d_len I (.inl h1) fun t s' I' => ⟨.int kvs.length, H, I', ⟨t, rfl⟩, h2⟩
theorem me_lenD [m : MoR S] (B : Bl X.mg) (h : ME X a σ H (Dn S ds)) (hg : Gl X "len" := by rfl) (hs : starEach [a] X.env = (false, eval a X.env) :: starEach [] X.env := by rfl) : ME X (.Call (.Name "len" p) [a] [] pos) σ H (Is (.int ds.length)) :=
  me_cB callLenD B.len btLen (ma_cons h ma_nil hs) (fun vs H1 x1 ps => by
    obtain ⟨x, rfl, q, kvs, rfl, h2, h3⟩ := p1 ps
    exact fun Q k => ⟨q, kvs, rfl, h2, k _ H1 (exr H1) (by rw [pLen h3]; rfl)⟩) hg (by decide) (by decide) hs rfl
theorem mn_dict0 : MN X (.Dict [] [] pos) σ H (Dn S []) := fun H1 x1 Q q => .of pe_dnewK fun p hp => q p _ hp (exNew hp) ⟨p, [], rfl, upd_same, .nil⟩
/-- dict(pairs), the keys unlike -/
theorem mn_dictP [m : MoR S] (B : Bl X.mg) (hc : X.calm = true) (h : ME X a σ H (Li (Pr RI S) ds)) (nd : (ds.map (·.1)).Nodup) (hg : Gl X "dict" := by rfl) (hs : starEach [a] X.env = (false, eval a X.env) :: starEach [] X.env := by rfl) : MN X (.Call (.Name "dict" p) [a] [] pos) σ H (Dn S ds) := fun H1 x1 Q k =>
  .of (pe_callTy (call_dictP hc) hg B.dict btDict pa_wa (by decide) (by decide) hs rfl) (ma_cons h ma_nil hs (P := Li (Pr RI S) ds) (m := ⟨fun {v H H'} x ⟨c, xs, h1, h2, h3⟩ => ⟨c, xs, h1, x _ _ h2, pImp (fun _ _ ⟨t, u, w, e1, e2, e3, e4⟩ => ⟨t, u, w, e1, rdMo x e2, e3, m.mo x e4⟩) h3⟩⟩) H1 x1 _ fun vs H2 x2 ps => by
    obtain ⟨x, rfl, q, xs, rfl, h2, h3⟩ := p1 ps
    have ex : ∃ (pp : List Addr) (kvs : List (Key × V)), xs = pp.map V.ref ∧ Paired (fun p kv => SqT X.K H2 p [kV kv.1, kv.2]) pp kvs ∧ Paired (fun kv d => kv.1 = .inl d.1 ∧ S d.2 kv.2 H2) kvs ds := by
      clear h2 ps nd k h
      induction h3 with
      | nil => exact ⟨[], [], rfl, .nil, .nil⟩
      | @cons v d vs ds r t ih =>
        obtain ⟨pp, kvs, e1, e2, e3⟩ := ih
        obtain ⟨T, u, w, rfl, e4, e5, e6⟩ := r
        have e5' : u = .int d.1 := e5
        subst e5'
        exact ⟨T :: pp, (.inl d.1, w) :: kvs, by rw [e1]; rfl, .cons (.inl e4) e2, .cons ⟨rfl, e6⟩ e3⟩
    obtain ⟨pp, kvs, rfl, e2, e3⟩ := ex
    refine ⟨q, pp, kvs, rfl, SqL.of h2, e2, fun p hp => k p _ (Evl.fresh_back x2 hp) (x2.trans (exNew hp)) ⟨p, kvs, rfl, ?_, pImp (fun _ _ ⟨z, z'⟩ => ⟨z, m.mo (exNew hp) z'⟩) e3⟩⟩
    rw [mergeApp e3 (ds := ([] : List (Int × β))) .nil (by simpa using nd), List.nil_append]
    exact upd_same)
/-- d.update(e), e a dict -/
def rUpdate : V → List V → Hp → VK → Prop := fun x vs H Q => ∃ d o kvs more, x = .ref d ∧ vs = [.ref o] ∧ d ≠ o ∧ H d = some (.dK kvs) ∧ H o = some (.dK more) ∧ kvs.length + more.length ≤ sizeLine ∧ Q .non (upd H d (.dK (mergeK kvs more)))
theorem mt_update : MtR X "dict.update" rUpdate := by
  intro pins s σ H x vs v us Q I rx rv h
  obtain ⟨d, o, kvs, more, rfl, rfl, hne, hd, ho, hz, q⟩ := h
  cases rx
  obtain ⟨u, rfl, ru⟩ := rv.one
  cases ru
  obtain ⟨z, hds, ks, rel, dd⟩ := dk_of I.hok hd
  obtain ⟨z2, hos, ms, rel2, dd2⟩ := dk_of I.hok ho
  refine call_meetsIn PySem.F.slot_dict_update dd.typeIs PySem.F.entry_dict_update (PySem.F.args_dict_update_2 _ _) (meets_dict_update (mixKind X.prog X.w) d o hne hos) ⟨ks, ms, dd, dd2, by rw [← rel.length, ← rel2.length]; exact hz, fun h' dd' _ hs => ?_⟩
  have he : ∃ q, h'.get? d = some q := let ⟨q, _, _, hq, _⟩ := dd'; ⟨q, hq⟩
  exact ⟨.non, _, d_write (t' := s.toks) I (by rw [hd]; exact True.intro) hs he (dk_new (Nat.le_trans (length_mergeK more kvs) hz) hds (KV.merge rel2 rel) dd'), rfl, q⟩
theorem we_update [m : MoR S] {t : Addr} {kvs : List (Key × V)} {Q : VK} (ht : H t = some (.dK kvs)) (hp : Paired (fun kv d => kv.1 = .inl d.1 ∧ S d.2 kv.2 H) kvs ds) (ho : ME X o σ H (Is (.ref t))) (ha : MN X e σ H (Dn S es)) (nd : ((ds ++ es).map (·.1)).Nodup) (hz : ds.length + es.length ≤ 1000)
    (q : ∀ H2 kvs', ExB (· = t) H H2 → H2 t = some (.dK kvs') → Paired (fun kv d => kv.1 = .inl d.1 ∧ ∃ H3, S d.2 kv.2 H3 ∧ Ex H H3 ∧ H2 = upd H3 t (.dK kvs')) kvs' (ds ++ es) → Q .non H2)
    (hbase : attributeBase o "update" X.env (eval o X.env) = eval o X.env := by rfl)
    (hfew : ((backTo pos (starEach [e] X.env)).all (fun x => !x.1) && (backToKw pos (keywordEach [] X.env)).all (fun x => x.1.isSome) && decide ([e].length + ([] : List Keyword).length + (if ([] : List Keyword).isEmpty then 0 else 1) < 30)) = true := by rfl)
    (hline : (apos.endLine == pos.line) = true := by rfl) (hs : starEach [e] X.env = (false, eval e X.env) :: starEach [] X.env := by rfl) (hplain : (backTo pos (starEach [] X.env)).any (·.1) = false := by rfl) : WE X (.Call (.Attribute o "update" apos) [e] [] pos) σ H Q :=
  .of (pe_bm PySem.F.plainAttrs_dict PySem.F.slot_dict_update PySem.F.type_dict_update mt_update pe_we (pa_cons pe_we pa_nil hs) hbase hfew hline hs hplain) (ho.we fun x H1 x1 p => by
    have e1 : x = .ref t := p
    rw [e1]
    refine ⟨.inr (.inr (.inl ⟨rfl, .inl ⟨_, x1 _ _ ht⟩⟩)), ha H1 x1 _ fun c H2 nc x2 r => ?_⟩
    obtain ⟨b, more, e2, hb, hm⟩ := r
    cases e2
    have ne : t ≠ c := fun z => by
      subst z
      rw [x1 _ _ ht] at nc
      cases nc
    have x12 := x1.trans x2
    have hp' := pImp (fun _ _ ⟨z, z'⟩ => (⟨z, m.mo x12 z'⟩ : _ ∧ _)) hp
    have em := mergeApp hm hp' nd
    refine ⟨t, c, kvs, more, rfl, rfl, ne, x12 _ _ ht, hb, by rw [pLen hp, pLen hm]; exact sq1000 hz, ?_⟩
    refine q _ (mergeK kvs more) ((ExB.of x12).trans (ExB.up rfl)) upd_same ?_
    rw [em]
    exact pImp (fun _ _ ⟨z, z'⟩ => ⟨z, _, z', x12, rfl⟩) (pApp hp' hm))
end
end Wk
set_option Elab.async false
set_option linter.all false
set_option maxRecDepth 100000
set_option maxHeartbeats 4000000
/-! In bundles, fits. -/
namespace Wk
open PySem PySem.Spec PyProof.Rows L2
theorem roomU1 {k : Nat} {A : Around} (h : Room k A) : A.units + 1 < cLine := by
  have := h.units
  omega
theorem TuP.pr {α β : Type} {R : Rp α} {S : Rp β} {a : α} {b : β} {v : V} {H : Hp} (h : TuP [R a, S b] v H) : Pr R S (a, b) v H := by
  obtain ⟨t, xs, h1, h2, h3⟩ := h
  obtain ⟨x, y, rfl, h4, h5⟩ := p2 h3
  exact ⟨t, x, y, h1, .inl h2, h4, h5⟩
/-- the entries that the rows give, each with its row's number -/
def entries (rows : List (List Int)) : List (Int × Int) := (numbered rows).flatMap fun d => d.2.map fun t => (t, d.1)
theorem numTake {α : Type} (ds : List α) (i : Nat) {d : α} (h : ds[i]? = some d) : (numbered ds).take (i + 1) = (numbered ds).take i ++ [((i : Int), d)] := by
  rw [List.take_add_one, numAt, h]
  rfl
def entTake (rows : List (List Int)) (i : Nat) : List (Int × Int) := ((numbered rows).take i).flatMap fun d => d.2.map fun t => (t, d.1)
theorem entTakeS {rows : List (List Int)} {i : Nat} {d : List Int} (h : rows[i]? = some d) : entTake rows (i + 1) = entTake rows i ++ d.map fun t => (t, (i : Int)) := by
  unfold entTake
  rw [numTake rows i h, List.flatMap_append]
  simp
theorem entTakeAll (rows : List (List Int)) : entTake rows rows.length = entries rows := by
  unfold entTake entries
  rw [← numLen, List.take_length]
theorem entKeys (rows : List (List Int)) : ∀ i, (entTake rows i).map (·.1) = (rows.take i).flatten := fun i => by
  induction i with
  | zero => rfl
  | succ i ih =>
    cases h : rows[i]? with
    | none =>
      have : entTake rows (i + 1) = entTake rows i := by
        unfold entTake
        rw [List.take_add_one, numAt, h]
        simp
      rw [this, ih, List.take_add_one, h]
      simp
    | some d =>
      rw [entTakeS h, List.map_append, ih, List.take_add_one, h, List.flatten_append]
      simp [Function.comp_def]
theorem entNd {rows : List (List Int)} (h : rows.flatten.Nodup) (i : Nat) : ((entTake rows i).map (·.1)).Nodup := by
  rw [entKeys]
  have e : rows.flatten = (rows.take i).flatten ++ (rows.drop i).flatten := by rw [← List.flatten_append, List.take_append_drop]
  rw [e] at h
  exact (List.nodup_append.mp h).1
def foundIn (order : List Int) (es : List (Int × Int)) : List Int := (order.filter fun t => (lk es t).isSome).map fun t => (lk es t).getD 0
def inBundles (order : List Int) (rows : List (List Int)) : Bool := decide (V.int (foundIn order (entries rows)).length = V.int (entries rows).length) && decide (foundIn order (entries rows) = srt (foundIn order (entries rows)))
section
variable {P : Program} {w : World} {K : PySem.W.Frag} {mg : Str → Option Value} {base : Heap}
abbrev spInBundles : Sp := SpD (δ := List Int × List (List Int)) (fun d => [Tu RI d.1, Tu (Tu RI) d.2]) (fun d => d.1.length ≤ 900 ∧ d.2.flatten.Nodup ∧ d.2.flatten.length ≤ 900) fun d => Is (.bl (inBundles d.1 d.2))
abbrev nInB : List Str := ["order", "bundles", "numbers", "number", "bundle", "thread", "found"]
theorem scInB : FnScope nInB ["order", "bundles"] (defScope sIsInBundles) := ⟨rfl, rfl, rfl, by decide +kernel, rfl, by decide +kernel, by decide +kernel⟩
theorem hInBundles (B : Bl mg) (D : Df K mg "is_in_bundles" sIsInBundles) : Has P w K mg base CX0 "is_in_bundles" 1 ["order", "bundles"] spInBundles :=
  .mkD D scInB (fun _ _ _ _ _ _ us hl => match us, hl with | [_, _], _ => rfl) (fun _ => rfl) fun f cdv A outer s H vs Q E d hr ho ha q => by
    obtain ⟨v, u, rfl, h1, h2⟩ := p2 ha
    obtain ⟨o1, o2, o3⟩ := ho
    refine wss_cons (ws_set 2 scInB.nd (MN.we (mn_dict0 (S := RI)) fun p H1 np x1 hl => ?_))
    obtain ⟨p', kv0, e, hp, hn⟩ := hl
    cases e
    cases hn
    refine wss_cons (ws_for (· = p) (fun i σ H3 => ∃ g g2, σ = [some v, some u, some (.ref p), g, g2, none, none] ∧ Ex H H3 ∧ Dn RI (entTake d.2 i) (.ref p) H3) (mi_enumT B.enum (me_var 1) h2) x1 (fun b e => by rw [e, hp]; exact ⟨np, fun z => nomatch z⟩) PassesOwn.never rfl
      (fun H2 x2 => ⟨none, none, rfl, x1.trans x2, p, [], rfl, x2 _ _ hp, .nil⟩) (fun i x σ H3 H4 hi ⟨g, g2, e, b3, h3⟩ x4 ⟨nd, ho', r⟩ => ?_) fun σ H3 ⟨g, g2, e, b3, h3⟩ => ?_)
    · subst e
      rw [numAt] at ho'
      obtain ⟨bundle, hb, e⟩ := Option.map_eq_some_iff.mp ho'
      subst e
      obtain ⟨T, n, z, rfl, hT, hn, hz⟩ := r
      have hn' : n = .int i := hn
      subst hn'
      refine wg_tup rfl hT (wgs_cons (wg_name 3 scInB.nd (wgs_cons (wg_name 4 scInB.nd (wgs_nil ?_)))))
      obtain ⟨p', kvs, e, h5, h6⟩ := MoR.mo (R := Dn RI) x4 h3
      cases e
      have lb : bundle.length ≤ d.2.flatten.length := by
        have h4 := flatLe d.2 (i + 1)
        rw [flatTake d.2 i hb, List.length_append] at h4
        omega
      have kk : ((entTake d.2 i ++ bundle.map fun t => (t, (i : Int))).map (·.1)).Nodup := by
        rw [← entTakeS hb]
        exact entNd o2 (i + 1)
      refine wss_one (ws_expr (we_update (S := RI) (es := bundle.map fun t => (t, (i : Int))) h5 h6 (me_var 2) (mn_dictP B rfl (mn_n0 (R := RI) (S := Pr RI RI) 5 (mi_tup (me_var 4) hz) (fun t => (t, (i : Int))) (small1000 (show bundle.length ≤ 1000 by omega)) (fun t y H5 ht x5 r5 => ?_) scInB.nd
        (blkOk_by (N := nInB) (sc := defScope sIsInBundles) (by decide +kernel))).me ?_) kk ?_ fun H5 kvs' xb h7 h8 => ⟨⟨_, _, rfl, ?_, p, kvs', rfl, h7, ?_⟩, (ExB.of x4).trans xb⟩))
      · intro _ _ _ _ _
        exact (mn_tup (ma_cons (me_is (me_var 5) r5) (ma_cons (me_is (me_var 3) (show RI (i : Int) (.int i) H5 from rfl)) ma_nil)) (moCons (moCons moNil)) (by simp)).me.imp fun v H6 x6 h6 => h6.pr
      · rw [List.map_append] at kk
        exact (List.nodup_append.mp kk).2.1
      · have e1 : (entTake d.2 i).length = ((entTake d.2 i).map (·.1)).length := by rw [List.length_map]
        have h4 := flatLe d.2 (i + 1)
        rw [flatTake d.2 i hb, List.length_append] at h4
        rw [e1, entKeys, List.length_map]
        omega
      · exact ExB.off (D := (· = p)) (b3.trans x4) xb fun b e => by rw [e]; exact np
      · rw [entTakeS hb]
        exact pImp (fun _ _ ⟨z1, H6, z2, _⟩ => ⟨z1, z2⟩) h8
    · subst e
      rw [numLen, entTakeAll] at h3
      refine wss_cons (ws_n1 (R := RI) (S := RI) (j := 6) 5 (mi_tup (me_var 0) (MoR.mo (R := Tu RI) b3 h1)) (fun t => (lk (entries d.2) t).isSome) (fun t => (lk (entries d.2) t).getD 0) (small1000 (by omega)) (fun t y H5 ht x5 r5 => ⟨?_, fun hs => ?_⟩) (fun l H4 nl x4 hl => ?_) scInB.nd
        (blkOk_by (N := nInB) (sc := defScope sIsInBundles) (by decide +kernel)))
      · have e : y = .int t := r5
        subst e
        intro _ _ _ _ _
        exact mt_dIn (S := RI) (roomU1 hr) (me_var 5) (me_is (me_var 2) (MoR.mo (R := Dn RI) x5 h3))
      · have e : y = .int t := r5
        subst e
        obtain ⟨n, en⟩ := Option.isSome_iff_exists.mp hs
        intro _ _ _ _ _
        refine me_dget (S := RI) (roomU1 hr) (me_is (me_var 2) (MoR.mo (R := Dn RI) x5 h3)) (me_var 5) ?_
        rw [en]
        rfl
      · have hl' : Li RI (foundIn d.1 (entries d.2)) (.ref l) H4 := hl
        refine wss_one (ws_ret (ME.we (me_and (me_eqS (me_lenL B (me_is (me_var 6) hl')) (me_lenD B (me_is (me_var 2) (MoR.mo (R := Dn RI) x4 h3)))) fun _ => me_one (me_eqD encL hr.units (me_is (me_var 6) hl') (me_sortedL B (me_is (me_var 6) hl')).me)) fun z H7 x7 p => q z H7 (b3.trans (x4.trans x7)) ?_))
        have e : z = .bl _ := p
        rw [e]
        rfl

/-! ### fits -/
def fitsB (order : List Int) (k : Kept) : Bool := (decide (srt order = k.threads) && inBundles order k.bundles) && (k.crosses.map (onSticks order)).all id
abbrev spFits : Sp := SpD (δ := List Int × Kept) (fun d => [Tu RI d.1, RK d.2]) (fun d => GoodO d.1 ∧ GoodK d.2) fun d => Is (.bl (fitsB d.1 d.2))
abbrev nFits : List Str := ["order", "kept", "cross"]
theorem scFits : FnScope nFits ["order", "kept"] (defScope sFits) := ⟨rfl, rfl, rfl, by decide +kernel, rfl, by decide +kernel, by decide +kernel⟩
theorem hFits (B : Bl mg) (D : Df K mg "fits" sFits) (G1 : Has P w K mg base CX0 "need_order" 4 ["thing"] spNeedOrder) (G2 : Has P w K mg base CX0 "need_kept" 7 ["thing"] spNeedKept) (G3 : Has P w K mg base CX0 "is_in_bundles" 1 ["order", "bundles"] spInBundles) (G4 : Has P w K mg base CX0 "is_on_sticks" 1 ["order", "cross"] spSticks) :
    Has P w K mg base CX0 "fits" 8 ["order", "kept"] spFits :=
  .mkD D scFits (fun _ _ _ _ _ _ us hl => match us, hl with | [_, _], _ => rfl) (fun _ => rfl) fun f cdv A outer s H vs Q E d hr ho ha q => by
    obtain ⟨v, u, rfl, h1, h2⟩ := p2 ha
    obtain ⟨o1, o2⟩ := ho
    refine wss_cons (ws_expr (ME.we (me_callD d.1 G1 (hr.mono (by decide)) o1 (ma_cons (me_is (me_var 0) h1) ma_nil) (P' := Any) (hP := fun _ _ _ => trivial)) fun _ H1 x1 _ => ?_))
    refine wss_cons (ws_expr (ME.we (me_callD d.2 G2 hr o2 (ma_cons (me_is (me_var 1) (Im.im (R := RK) (tkEx x1) h2)) ma_nil) (P' := Any) (hP := fun _ _ _ => trivial)) fun _ H2 x2 _ => ?_))
    have x12 := x1.trans x2
    have h1' := MoR.mo (R := Tu RI) x12 h1
    obtain ⟨t, x, y, z, rfl, ht, hx, hy, hz⟩ := Im.im (R := RK) (tkEx x12) h2
    have l1 := o1.len
    refine wss_cons (ws_if (MT.wt (k := !decide (srt d.1 = d.2.threads) || !inBundles d.1 d.2.bundles) (MW.mt (mw_or (mt_neD encT hr.units (me_tuL B (me_sortedT B (me_is (me_var 0) h1')).me).me (me_is (me_ixTV (me_var 1) me_int ht rfl) hx)) fun _ => mw_or1 (mt_not (mt_val
      (me_callD (d.1, d.2.bundles) G3 (hr.mono (by decide)) ⟨show d.1.length ≤ 900 by omega, o2.bund.nd, o2.bund.flat⟩ (ma_cons (me_is (me_var 0) h1') (ma_cons (me_is (me_ixTV (me_var 1) me_int ht rfl) hz) ma_nil))))))) fun H3 x3 => ?_))
    cases hb : (!decide (srt d.1 = d.2.threads) || !inBundles d.1 d.2.bundles) with
    | true =>
      refine iteT (wss_one (ws_ret (ME.we me_bl fun r H4 x4 p => q r H4 (x12.trans (x3.trans x4)) ?_)))
      have e : r = .bl false := p
      have e2 : fitsB d.1 d.2 = false := by
        unfold fitsB
        cases h3 : decide (srt d.1 = d.2.threads) <;> cases h4 : inBundles d.1 d.2.bundles <;> simp_all
      rw [e, e2]
      rfl
    | false =>
      refine iteF (wss_nil (wss_one (ws_ret (ME.we (me_all B rfl (mn_n0 (R := Tu (Tu RI)) (S := RB) 2 (mi_tup (me_ixTV (me_var 1) me_int (rdMo x3 ht) rfl) (MoR.mo (R := Tu (Tu (Tu RI))) x3 hy)) (onSticks d.1) (small1000 (by have := o2.few; omega)) (fun c r H4 hc x4 r4 => ?_) scFits.nd
        (blkOk_by (N := nFits) (sc := defScope sFits) (by decide +kernel))).me) fun r H4 x4 p => q r H4 (x12.trans (x3.trans x4)) ?_))))
      · intro _ _ _ _ _
        exact me_callD (d.1, c) G4 (hr.mono (by decide)) (show d.1.length ≤ 900 by omega) (ma_cons (me_is (me_var 0) (MoR.mo (R := Tu RI) (x3.trans x4) h1')) (ma_cons (me_is (me_var 2) r4) ma_nil))
      · have e : r = .bl _ := p
        have e2 : fitsB d.1 d.2 = (d.2.crosses.map (onSticks d.1)).all id := by
          unfold fitsB
          cases h3 : decide (srt d.1 = d.2.threads) <;> cases h4 : inBundles d.1 d.2.bundles <;> simp_all
        rw [e, e2]
        rfl
end
end Wk
set_option Elab.async false
set_option linter.all false
set_option maxRecDepth 100000
set_option maxHeartbeats 4000000
/-! What is kept without a thread; dents, eyes. -/
namespace Wk
open PySem PySem.Spec PyProof.Rows L2
section
variable {X : Cx} {a b : Expr} {σ : L2.St} {H : Hp} {D : Ends} {pos : Pos}
/-- x, y = a, b, local names -/
theorem ws_par {P1 P2 : Pv} {x y : Str} {px py pt pt2 : Pos} {kt k2 : Nat} (i j : Nat) (hN : X.N.Nodup) (ha : MA X [a, b] σ H [P1, P2]) (next : ∀ u w H1, Ex H H1 → P1 u H1 → P2 w H1 → D.nx ((σ.set i (some u)).set j (some w)) H1) (hi : X.N[i]? = some x := by rfl) (hj : X.N[j]? = some y := by rfl) (hij : i ≠ j := by decide)
    (hx : X.env.scope.names.lookup x = some .local := by rfl) (hy : X.env.scope.names.lookup y = some .local := by rfl) (hw : swappedStores [.Tuple [.Name x px, .Name y py] kt pt] (.Tuple [a, b] k2 pt2) X.env = pure (some [x, y]) := by rfl)
    (hs : swapsWithSole [.Tuple [.Name x px, .Name y py] kt pt] (.Tuple [a, b] k2 pt2) pos.line X.env = pure false := by rfl) (hc : X.calm = true := by rfl) : WS X (.Assign [.Tuple [.Name x px, .Name y py] kt pt] (.Tuple [a, b] k2 pt2) pos) D σ H :=
  .of (ps_par hc hN hi hj hij hx hy pa_wa hw hs) (ha H (exr H) _ fun vs H1 x1 ps => by
    obtain ⟨u, w, rfl, h1, h2⟩ := p2 ps
    exact ⟨u, w, rfl, next u w H1 x1 h1 h2⟩)
end
section
variable {P : Program} {w : World} {K : PySem.W.Frag} {mg : Str → Option Value} {base : Heap}
def without (k : Kept) (t : Int) : Kept := ⟨leftOf k.threads [t], k.crosses.map fun c => c.map fun o => leftOf o [t], (k.bundles.map fun o => leftOf o [t]).filter fun o => !decide (o = [])⟩
theorem TuP.rk {k : Kept} {v : V} {H : Hp} (h : TuP [Tu RI k.threads, Tu (Tu (Tu RI)) k.crosses, Tu (Tu RI) k.bundles] v H) : RK k v H := by
  obtain ⟨a, xs, h1, h2, h3⟩ := h
  obtain ⟨x, y, z, rfl, h4, h5, h6⟩ := p3 h3
  exact ⟨a, x, y, z, h1, .inl h2, h4, h5, h6⟩
abbrev spWithout : Sp := SpD (δ := Kept × Int) (fun d => [RK d.1, Is (.int d.2)]) (fun d => GoodK d.1 ∧ 0 ≤ d.2 ∧ d.2 ≤ 99) fun d => RK (without d.1 d.2)
abbrev nWithout : List Str := ["kept", "thread", "lost", "crosses", "bundles", "over", "under", "bundle"]
theorem scWithout : FnScope nWithout ["kept", "thread"] (defScope sKeptWithout) := ⟨rfl, rfl, rfl, by decide +kernel, rfl, by decide +kernel, by decide +kernel⟩
theorem len2 {α : Type} {l : List α} (h : l.length = 2) : ∃ a b, l = [a, b] := by
  match l, h with
  | [a, b], _ => exact ⟨a, b, rfl⟩
theorem bundLen {k : Kept} (h : GoodK k) {o : List Int} (ho : o ∈ k.bundles) : o.length ≤ 60 := (h.bund.all o ho).len
theorem hWithout (B : Bl mg) (D : Df K mg "kept_without" sKeptWithout) (G1 : Has P w K mg base CX0 "need_kept" 7 ["thing"] spNeedKept) (G2 : Has P w K mg base CX0 "need_thread" 3 ["thing"] spNeedThread) (G3 : Has P w K mg base CX0 "left_of" 1 ["one", "order"] spLeft) :
    Has P w K mg base CX0 "kept_without" 8 ["kept", "thread"] spWithout :=
  .mkD D scWithout (fun _ _ _ _ _ _ us hl => match us, hl with | [_, _], _ => rfl) (fun _ => rfl) fun f cdv A outer s H vs Q E d hr ho ha q => by
    obtain ⟨v, u, rfl, h1, h2⟩ := p2 ha
    have h2' : u = .int d.2 := h2
    subst h2'
    obtain ⟨o1, o2⟩ := ho
    refine wss_cons (ws_expr (ME.we (me_callD d.1 G1 hr o1 (ma_cons (me_is (me_var 0) h1) ma_nil) (P' := Any) (hP := fun _ _ _ => trivial)) fun _ H1 x1 _ => ?_))
    refine wss_cons (ws_expr (ME.we (me_callD d.2 G2 (hr.mono (by decide)) o2 (ma_cons (me_var 1) ma_nil) (P' := Any) (hP := fun _ _ _ => trivial)) fun _ H2 x2 _ => ?_))
    -- lost = (thread,)
    refine wss_cons (ws_set 2 scWithout.nd ((mn_tup (ma_cons (me_is (me_var 1) (show RI d.2 (.int d.2) H2 from rfl)) ma_nil) (moCons moNil) (by simp)).me.we fun l H3 x3 hl => ?_))
    have hl : Tu RI [d.2] l H3 := TuP.tu (ds := [d.2]) hl
    obtain ⟨t, x, y, z, rfl, ht, hx, hy, hz⟩ := Im.im (R := RK) (tkEx ((x1.trans x2).trans x3)) h1
    have cl : ∀ c ∈ d.1.crosses, ∃ a b, c = [a, b] ∧ a.length ≤ 60 ∧ b.length ≤ 60 := fun c hc => by
      obtain ⟨h, e⟩ := o1.cross c hc
      obtain ⟨a, b, rfl⟩ := len2 e
      exact ⟨a, b, rfl, (h.all a (by simp)).len, (h.all b (by simp)).len⟩
    have few := o1.few
    -- crosses = [..]
    refine wss_cons (ws_p0 (R := Tu (Tu RI)) (S := Tu (Tu RI)) (l := 3) 5 6 (fun d u w H => ∃ a b, d = [a, b] ∧ Tu RI a u H ∧ Tu RI b w H) (mi_tup (me_ixTV (me_var 0) me_int ht rfl) hy) (fun c hc => by
      obtain ⟨a, b, rfl, _⟩ := cl c hc
      exact prTu a b) (fun c => c.map fun o => leftOf o [d.2]) (small1000 (by omega)) (by decide) (fun c u w H4 hc x4 hY => ?_) (fun cr H4 ncr x4 hcr => ?_) scWithout.nd (blkOk_by (N := nWithout) (sc := defScope sKeptWithout) (by decide +kernel)))
    · obtain ⟨a, b, rfl, ra, rb⟩ := hY
      obtain ⟨a', b', e, la, lb⟩ := cl _ hc
      cases e
      have hl4 := MoR.mo (R := Tu RI) x4 hl
      intro _ _ _ _ _
      exact (mn_tup (Ps := [Tu RI (leftOf a [d.2]), Tu RI (leftOf b [d.2])]) (ma_cons (me_callD (a, [d.2]) G3 (hr.mono (by decide)) (show a.length ≤ 1000 by omega) (ma_cons (me_is (me_var 5) ra) (ma_cons (me_is (me_var 2) hl4) ma_nil))) (ma_cons (me_callD (b, [d.2]) G3 (hr.mono (by decide)) (show b.length ≤ 1000 by omega) (ma_cons (me_is (me_var 6) rb) (ma_cons (me_is (me_var 2) hl4) ma_nil))) ma_nil))
        (moCons (moCons moNil)) (by simp)).me.imp fun v H6 x6 h6 => TuP.tu (ds := [leftOf a [d.2], leftOf b [d.2]]) h6
    -- bundles = [..]
    have hb := o1.bund.len
    refine wss_cons (ws_n0 (R := Tu RI) (S := Tu RI) (j := 4) 7 (mi_tup (me_ixTV (me_var 0) me_int (rdMo x4 ht) rfl) (MoR.mo (R := Tu (Tu RI)) x4 hz)) (fun o => leftOf o [d.2]) (small1000 (by omega)) (fun o r H5 ho x5 r5 => ?_) (fun bu H5 nbu x5 hbu => ?_) scWithout.nd (blkOk_by (N := nWithout) (sc := defScope sKeptWithout) (by decide +kernel)))
    · intro _ _ _ _ _
      have := bundLen o1 ho
      exact me_callD (o, [d.2]) G3 (hr.mono (by decide)) (show o.length ≤ 1000 by omega) (ma_cons (me_is (me_var 7) r5) (ma_cons (me_is (me_var 2) (MoR.mo (R := Tu RI) (x4.trans x5) hl)) ma_nil))
    -- return (..)
    have lt := o1.thr.len
    have hcr5 := MoR.mo (R := Li (Tu (Tu RI))) x5 hcr
    refine wss_one (ws_ret (ME.we (mn_tup (Ps := [Tu RI (leftOf d.1.threads [d.2]), Tu (Tu (Tu RI)) (d.1.crosses.map fun c => c.map fun o => leftOf o [d.2]), Tu (Tu RI) (((d.1.bundles.map fun o => leftOf o [d.2]).filter fun o => !decide (o = [])).map fun o => o)])
      (ma_cons (me_callD (d.1.threads, [d.2]) G3 (hr.mono (by decide)) (show d.1.threads.length ≤ 1000 by omega) (ma_cons (me_is (me_ixTV (me_var 0) me_int (rdMo (x4.trans x5) ht) rfl) (MoR.mo (R := Tu RI) (x4.trans x5) hx)) (ma_cons (me_is (me_var 2) (MoR.mo (R := Tu RI) (x4.trans x5) hl)) ma_nil)))
      (ma_cons (me_tuL B (me_is (me_var 3) hcr5)).me (ma_cons (me_tuL B (mn_n1 (R := Tu RI) (S := Tu RI) 7 (mi_lst (me_var 4) hbu) (fun o => !decide (o = [])) (fun o => o) (small1000 (by rw [List.length_map]; omega)) (fun o r H6 ho x6 r6 => ⟨?_, fun _ => ?_⟩) scWithout.nd (blkOk_by (N := nWithout) (sc := defScope sKeptWithout) (by decide +kernel))).me).me ma_nil)))
      (moCons (moCons (moCons moNil))) (by simp)).me fun z H6 x6 p => q z H6 (((x1.trans x2).trans x3).trans (x4.trans (x5.trans x6))) (TuP.rk ?_)))
    · intro _ _ _ _ _
      exact mt_neD encT hr.units (me_is (me_var 7) r6) ((mn_tup ma_nil moNil (Nat.zero_le _)).me.imp fun v H x h => TuP.tu (ds := ([] : List Int)) h)
    · intro _ _ _ _ _
      exact me_is (me_var 7) r6
    · rw [filterMapId] at p
      exact p

/-! ### dents -/
def fitsDents (ahead behind : List Int) (t : Int) (rows : List (List Int)) : Bool := match lk (entries rows) t with
  | none => true
  | some own => !((((ahead.filter fun o => (lk (entries rows) o).isSome).map fun o => decide ((lk (entries rows) o).getD 0 > own)).any id)) && !((((behind.filter fun o => (lk (entries rows) o).isSome).map fun o => decide ((lk (entries rows) o).getD 0 < own)).any id))
structure DD where
  ahead : List Int
  behind : List Int
  t : Int
  rows : List (List Int)
abbrev spFitsDents : Sp := SpD (δ := DD) (fun d => [Tu RI d.ahead, Tu RI d.behind, Is (.int d.t), Tu (Tu RI) d.rows]) (fun d => d.ahead.length ≤ 900 ∧ d.behind.length ≤ 900 ∧ d.rows.flatten.Nodup ∧ d.rows.flatten.length ≤ 900) fun d => Is (.bl (fitsDents d.ahead d.behind d.t d.rows))
abbrev nDents : List Str := ["ahead", "behind", "thread", "reeded", "dents", "number", "some", "one", "own"]
theorem scDents : FnScope nDents ["ahead", "behind", "thread", "reeded"] (defScope sFitsDents) := ⟨rfl, rfl, rfl, by decide +kernel, rfl, by decide +kernel, by decide +kernel⟩
theorem p4 {vs : List V} {P P2 P3 P4 : Pv} {H : Hp} (h : Paired (fun v P => P v H) vs [P, P2, P3, P4]) : ∃ x y z q, vs = [x, y, z, q] ∧ P x H ∧ P2 y H ∧ P3 z H ∧ P4 q H := by
  cases h with
  | cons r t =>
    obtain ⟨y, z, q, rfl, h1, h2, h3⟩ := p3 t
    exact ⟨_, _, _, _, rfl, r, h1, h2, h3⟩
theorem hFitsDents (B : Bl mg) (D : Df K mg "fits_dents" sFitsDents) : Has P w K mg base CX0 "fits_dents" 1 ["ahead", "behind", "thread", "reeded"] spFitsDents :=
  .mkD D scDents (fun _ _ _ _ _ _ us hl => match us, hl with | [_, _, _, _], _ => rfl) (fun _ => rfl) fun f cdv A outer s H vs Q E d hr ho ha q => by
    obtain ⟨v, u, z, r, rfl, h1, h2, h3, h4⟩ := p4 ha
    obtain ⟨o1, o1', o2, o3⟩ := ho
    have h3' : z = .int d.t := h3
    subst h3'
    refine wss_cons (ws_set 4 scDents.nd (MN.we (mn_dict0 (S := RI)) fun p H1 np x1 hl => ?_))
    obtain ⟨p', kv0, e, hp, hn⟩ := hl
    cases e
    cases hn
    refine wss_cons (ws_for (· = p) (fun i σ H3 => ∃ g g2, σ = [some v, some u, some (.int d.t), some r, some (.ref p), g, g2, none, none] ∧ Ex H H3 ∧ Dn RI (entTake d.rows i) (.ref p) H3) (mi_enumT B.enum (me_var 3) h4) x1 (fun b e => by rw [e, hp]; exact ⟨np, fun z => nomatch z⟩) PassesOwn.never rfl
      (fun H2 x2 => ⟨none, none, rfl, x1.trans x2, p, [], rfl, x2 _ _ hp, .nil⟩) (fun i x σ H3 H4 hi ⟨g, g2, e, b3, h3⟩ x4 ⟨nd, ho', r⟩ => ?_) fun σ H3 ⟨g, g2, e, b3, h3⟩ => ?_)
    · subst e
      rw [numAt] at ho'
      obtain ⟨bundle, hb, e⟩ := Option.map_eq_some_iff.mp ho'
      subst e
      obtain ⟨T, n, z, rfl, hT, hn, hz⟩ := r
      have hn' : n = .int i := hn
      subst hn'
      refine wg_tup rfl hT (wgs_cons (wg_name 5 scDents.nd (wgs_cons (wg_name 6 scDents.nd (wgs_nil ?_)))))
      obtain ⟨p', kvs, e, h5, h6⟩ := MoR.mo (R := Dn RI) x4 h3
      cases e
      have lb : bundle.length ≤ d.rows.flatten.length := by
        have h4 := flatLe d.rows (i + 1)
        rw [flatTake d.rows i hb, List.length_append] at h4
        omega
      have kk : ((entTake d.rows i ++ bundle.map fun t => (t, (i : Int))).map (·.1)).Nodup := by
        rw [← entTakeS hb]
        exact entNd o2 (i + 1)
      refine wss_one (ws_expr (we_update (S := RI) (es := bundle.map fun t => (t, (i : Int))) h5 h6 (me_var 4) (mn_dictP B rfl (mn_n0 (R := RI) (S := Pr RI RI) 7 (mi_tup (me_var 6) hz) (fun t => (t, (i : Int))) (small1000 (show bundle.length ≤ 1000 by omega)) (fun t y H5 ht x5 r5 => ?_) scDents.nd
        (blkOk_by (N := nDents) (sc := defScope sFitsDents) (by decide +kernel))).me ?_) kk ?_ fun H5 kvs' xb h7 h8 => ⟨⟨_, _, rfl, ?_, p, kvs', rfl, h7, ?_⟩, (ExB.of x4).trans xb⟩))
      · intro _ _ _ _ _
        exact (mn_tup (ma_cons (me_is (me_var 7) r5) (ma_cons (me_is (me_var 5) (show RI (i : Int) (.int i) H5 from rfl)) ma_nil)) (moCons (moCons moNil)) (by simp)).me.imp fun v H6 x6 h6 => h6.pr
      · rw [List.map_append] at kk
        exact (List.nodup_append.mp kk).2.1
      · have e1 : (entTake d.rows i).length = ((entTake d.rows i).map (·.1)).length := by rw [List.length_map]
        have h4 := flatLe d.rows (i + 1)
        rw [flatTake d.rows i hb, List.length_append] at h4
        rw [e1, entKeys, List.length_map]
        omega
      · exact ExB.off (D := (· = p)) (b3.trans x4) xb fun b e => by rw [e]; exact np
      · rw [entTakeS hb]
        exact pImp (fun _ _ ⟨z1, H6, z2, _⟩ => ⟨z1, z2⟩) h8
    · subst e
      rw [numLen, entTakeAll] at h3
      -- if thread not in dents: return True
      refine wss_cons (ws_if (MT.wt (mt_dNot (S := RI) (roomU1 hr) (me_var 2) (me_is (me_var 4) h3)) fun H4 x4 => ?_))
      cases hk : lk (entries d.rows) d.t with
      | none =>
        refine iteT (wss_one (ws_ret (ME.we me_bl fun y H5 x5 p => q y H5 (b3.trans (x4.trans x5)) ?_)))
        have e : y = .bl true := p
        rw [e]
        show V.bl true = V.bl _
        unfold fitsDents
        rw [hk]
      | some own =>
        refine iteF (wss_nil ?_)
        have h34 := MoR.mo (R := Dn RI) x4 h3
        refine wss_cons (ws_set 8 scDents.nd (ME.we (me_dget (S := RI) (roomU1 hr) (me_is (me_var 4) h34) (me_var 2) hk) fun y H5 x5 p5 => ?_))
        have p5' : y = .int own := p5
        subst p5'
        have h35 := MoR.mo (R := Dn RI) x5 h34
        have x15 := b3.trans (x4.trans x5)
        refine wss_cons (ws_if (MT.wt (mt_val (me_any B rfl (mn_n1 (R := RI) (S := RB) 7 (mi_tup (me_var 0) (MoR.mo (R := Tu RI) x15 h1)) (fun o => (lk (entries d.rows) o).isSome) (fun o => decide ((lk (entries d.rows) o).getD 0 > own)) (small1000 (by omega)) (fun o y H6 ho x6 r6 => ⟨?_, fun hs => ?_⟩) scDents.nd
          (blkOk_by (N := nDents) (sc := defScope sFitsDents) (by decide +kernel))).me)) fun H6 x6 => ?_))
        · have e : y = .int o := r6
          subst e
          intro _ _ _ _ _
          exact mt_dIn (S := RI) (roomU1 hr) (me_var 7) (me_is (me_var 4) (MoR.mo (R := Dn RI) x6 h35))
        · have e : y = .int o := r6
          subst e
          obtain ⟨n, en⟩ := Option.isSome_iff_exists.mp hs
          intro _ _ _ _ _
          rw [en]
          exact me_cI op_gt (me_dget (S := RI) (roomU1 hr) (me_is (me_var 4) (MoR.mo (R := Dn RI) x6 h35)) (me_var 7) en) (me_var 8)
        have h36 := MoR.mo (R := Dn RI) x6 h35
        cases hA : (((d.ahead.filter fun o => (lk (entries d.rows) o).isSome).map fun o => decide ((lk (entries d.rows) o).getD 0 > own)).any id) with
        | true =>
          refine iteT (wss_one (ws_ret (ME.we me_bl fun y H7 x7 p => q y H7 (x15.trans (x6.trans x7)) ?_)))
          have e : y = .bl false := p
          rw [e]
          show V.bl false = V.bl _
          unfold fitsDents
          rw [hk]
          simp only []
          rw [hA]
          rfl
        | false =>
          refine iteF (wss_nil (wss_one (ws_ret (ME.we (me_not (me_any B rfl (mn_n1 (R := RI) (S := RB) 7 (mi_tup (me_var 1) (MoR.mo (R := Tu RI) (x15.trans x6) h2)) (fun o => (lk (entries d.rows) o).isSome) (fun o => decide ((lk (entries d.rows) o).getD 0 < own)) (small1000 (by omega)) (fun o y H7 ho x7 r7 => ⟨?_, fun hs => ?_⟩) scDents.nd
            (blkOk_by (N := nDents) (sc := defScope sFitsDents) (by decide +kernel))).me)) fun y H7 x7 p => q y H7 (x15.trans (x6.trans x7)) ?_))))
          · have e : y = .int o := r7
            subst e
            intro _ _ _ _ _
            exact mt_dIn (S := RI) (roomU1 hr) (me_var 7) (me_is (me_var 4) (MoR.mo (R := Dn RI) x7 h36))
          · have e : y = .int o := r7
            subst e
            obtain ⟨n, en⟩ := Option.isSome_iff_exists.mp hs
            intro _ _ _ _ _
            rw [en]
            exact me_cI op_lt (me_dget (S := RI) (roomU1 hr) (me_is (me_var 4) (MoR.mo (R := Dn RI) x7 h36)) (me_var 7) en) (me_var 8)
          · have e : y = .bl _ := p
            rw [e]
            show V.bl _ = V.bl _
            unfold fitsDents
            rw [hk]
            simp only []
            rw [hA]
            rfl
end
end Wk
set_option Elab.async false
set_option linter.all false
set_option maxRecDepth 100000
set_option maxHeartbeats 4000000
/-! Eyes; places. -/
namespace Wk
open PySem PySem.Spec PyProof.Rows L2
def RS : Rp (Int × Int) := fun d => Tu RI [d.1, d.2]
instance : Im RS := ⟨fun {d v H H'} e h => Im.im (R := Tu RI) e h⟩
def spotsOf (es : List Led) : List (Int × (Int × Int)) := es.map fun e => (e.1, (e.2.1, e.2.2))
def atSpot (es : List Led) (o : Int) : Int × Int := (lk (spotsOf es) o).getD (0, 0)
def onShaft (es : List Led) (own : Int × Int) (o : Int) : Bool := (lk (spotsOf es) o).isSome && decide (V.int (atSpot es o).1 = V.int own.1)
def fitsEyes (ahead behind : List Int) (t : Int) (es : List Led) : Bool := match lk (spotsOf es) t with
  | none => true
  | some own => !((((ahead.filter (onShaft es own)).map fun o => decide ((atSpot es o).2 ≥ own.2)).any id)) && !((((behind.filter (onShaft es own)).map fun o => decide ((atSpot es o).2 ≤ own.2)).any id))
section
variable {P : Program} {w : World} {K : PySem.W.Frag} {mg : Str → Option Value} {base : Heap}
structure DE where
  ahead : List Int
  behind : List Int
  t : Int
  es : List Led
abbrev spFitsEyes : Sp := SpD (δ := DE) (fun d => [Tu RI d.ahead, Tu RI d.behind, Is (.int d.t), Tu RE d.es]) (fun d => d.ahead.length ≤ 900 ∧ d.behind.length ≤ 900 ∧ (d.es.map fun o : Led => o.1).Nodup ∧ d.es.length ≤ 900) fun d => Is (.bl (fitsEyes d.ahead d.behind d.t d.es))
abbrev nEyes : List Str := ["ahead", "behind", "thread", "threaded", "spots", "one", "shaft", "eye", "own"]
theorem scEyes : FnScope nEyes ["ahead", "behind", "thread", "threaded"] (defScope sFitsEyes) := ⟨rfl, rfl, rfl, by decide +kernel, rfl, by decide +kernel, by decide +kernel⟩
theorem hFitsEyes (B : Bl mg) (D : Df K mg "fits_eyes" sFitsEyes) : Has P w K mg base CX0 "fits_eyes" 1 ["ahead", "behind", "thread", "threaded"] spFitsEyes :=
  .mkD D scEyes (fun _ _ _ _ _ _ us hl => match us, hl with | [_, _, _, _], _ => rfl) (fun _ => rfl) fun f cdv A outer s H vs Q E d hr ho ha q => by
    obtain ⟨v, u, z, r, rfl, h1, h2, h3, h4⟩ := p4 ha
    obtain ⟨o1, o1', o2, o3⟩ := ho
    have h3' : z = .int d.t := h3
    subst h3'
    refine wss_cons (ws_set 4 scEyes.nd (MN.we (mn_dictP (S := RS) (ds := spotsOf d.es) B rfl (mn_t0 (R := RE) (S := Pr RI RS) 5 6 7 _ (mi_tup (me_var 3) h4) (fun d _ => trRE d) (fun e => (e.1, (e.2.1, e.2.2))) (small1000 (by omega)) (by decide) (by decide) (by decide) (fun e x y z H3 he x3 hY => ?_) scEyes.nd
      (blkOk_by (N := nEyes) (sc := defScope sFitsEyes) (by decide +kernel))).me ?_) fun p H3 np x3 h5 => ?_))
    · obtain ⟨rfl, rfl, rfl⟩ := hY
      intro _ _ _ _ _
      exact (mn_tup (Ps := [RI e.1, RS (e.2.1, e.2.2)]) (ma_cons (me_is (me_var 5) (show RI e.1 (.int e.1) H3 from rfl)) (ma_cons ((mn_tup (ma_cons (me_is (me_var 6) (show RI e.2.1 (.int e.2.1) H3 from rfl)) (ma_cons (me_is (me_var 7) (show RI e.2.2 (.int e.2.2) H3 from rfl)) ma_nil)) (moCons (moCons moNil)) (by simp)).me.imp fun v H6 x6 h6 => TuP.tu (ds := [e.2.1, e.2.2]) h6) ma_nil)) (moCons (moCons moNil)) (by simp)).me.imp fun v H6 x6 h6 => h6.pr
    · unfold spotsOf
      rw [List.map_map]
      exact o2
    -- if thread not in spots: return True
    refine wss_cons (ws_if (MT.wt (mt_dNot (S := RS) (roomU1 hr) (me_var 2) (me_is (me_var 4) h5)) fun H4 x4 => ?_))
    cases hk : lk (spotsOf d.es) d.t with
    | none =>
      refine iteT (wss_one (ws_ret (ME.we me_bl fun y H5 x5 p => q y H5 (x3.trans (x4.trans x5)) ?_)))
      have e : y = .bl true := p
      rw [e]
      show V.bl true = V.bl _
      unfold fitsEyes
      rw [hk]
    | some own =>
      refine iteF (wss_nil ?_)
      have h34 := MoR.mo (R := Dn RS) x4 h5
      refine wss_cons (ws_set 8 scEyes.nd (ME.we (me_dget (S := RS) (roomU1 hr) (me_is (me_var 4) h34) (me_var 2) hk) fun y H5 x5 p5 => ?_))
      have p5' : Tu RI [own.1, own.2] y H5 := p5
      have h35 := MoR.mo (R := Dn RS) x5 h34
      have x15 := x3.trans (x4.trans x5)
      refine wss_cons (ws_if (MT.wt (mt_val (me_any B rfl (mn_n1 (R := RI) (S := RB) 5 (mi_tup (me_var 0) (MoR.mo (R := Tu RI) x15 h1)) (onShaft d.es own) (fun o => decide ((atSpot d.es o).2 ≥ own.2)) (small1000 (by omega)) (fun o y H6 ho x6 r6 => ⟨?_, fun hs => ?_⟩) scEyes.nd
        (blkOk_by (N := nEyes) (sc := defScope sFitsEyes) (by decide +kernel))).me)) fun H6 x6 => ?_))
      · have e : y = .int o := r6
        subst e
        intro _ _ _ _ _
        refine MW.mt (mw_and (mt_dIn (S := RS) (roomU1 hr) (me_var 5) (me_is (me_var 4) (MoR.mo (R := Dn RS) x6 h35))) fun hs => mw_and1 (mt_eqS (me_ixT (R := RI) (ds := [(atSpot d.es o).1, (atSpot d.es o).2]) (me_dget (S := RS) (d := atSpot d.es o) (roomU1 hr) (me_is (me_var 4) (MoR.mo (R := Dn RS) x6 h35)) (me_var 5) ?_) me_int rfl) (me_ixT (R := RI) (me_is (me_var 8) (MoR.mo (R := Tu RI) x6 p5')) me_int rfl)))
        obtain ⟨n, en⟩ := Option.isSome_iff_exists.mp hs
        unfold atSpot
        rw [en]
        rfl
      · have e : y = .int o := r6
        subst e
        have hs1 : (lk (spotsOf d.es) o).isSome = true := by
          unfold onShaft at hs
          rw [Bool.and_eq_true] at hs
          exact hs.1
        obtain ⟨n, en⟩ := Option.isSome_iff_exists.mp hs1
        intro _ _ _ _ _
        refine me_cI op_ge (me_ixT (R := RI) (ds := [(atSpot d.es o).1, (atSpot d.es o).2]) (me_dget (S := RS) (d := atSpot d.es o) (roomU1 hr) (me_is (me_var 4) (MoR.mo (R := Dn RS) x6 h35)) (me_var 5) ?_) me_int rfl) (me_ixT (R := RI) (me_is (me_var 8) (MoR.mo (R := Tu RI) x6 p5')) me_int rfl)
        unfold atSpot
        rw [en]
        rfl
      have h36 := MoR.mo (R := Dn RS) x6 h35
      have p6 := MoR.mo (R := Tu RI) x6 p5'
      cases hA : (((d.ahead.filter (onShaft d.es own)).map fun o => decide ((atSpot d.es o).2 ≥ own.2)).any id) with
      | true =>
        refine iteT (wss_one (ws_ret (ME.we me_bl fun y H7 x7 p => q y H7 (x15.trans (x6.trans x7)) ?_)))
        have e : y = .bl false := p
        rw [e]
        show V.bl false = V.bl _
        unfold fitsEyes
        rw [hk]
        simp only []
        rw [hA]
        rfl
      | false =>
        refine iteF (wss_nil (wss_one (ws_ret (ME.we (me_not (me_any B rfl (mn_n1 (R := RI) (S := RB) 5 (mi_tup (me_var 1) (MoR.mo (R := Tu RI) (x15.trans x6) h2)) (onShaft d.es own) (fun o => decide ((atSpot d.es o).2 ≤ own.2)) (small1000 (by omega)) (fun o y H7 ho x7 r7 => ⟨?_, fun hs => ?_⟩) scEyes.nd
          (blkOk_by (N := nEyes) (sc := defScope sFitsEyes) (by decide +kernel))).me)) fun y H7 x7 p => q y H7 (x15.trans (x6.trans x7)) ?_))))
        · have e : y = .int o := r7
          subst e
          intro _ _ _ _ _
          refine MW.mt (mw_and (mt_dIn (S := RS) (roomU1 hr) (me_var 5) (me_is (me_var 4) (MoR.mo (R := Dn RS) x7 h36))) fun hs => mw_and1 (mt_eqS (me_ixT (R := RI) (ds := [(atSpot d.es o).1, (atSpot d.es o).2]) (me_dget (S := RS) (d := atSpot d.es o) (roomU1 hr) (me_is (me_var 4) (MoR.mo (R := Dn RS) x7 h36)) (me_var 5) ?_) me_int rfl) (me_ixT (R := RI) (me_is (me_var 8) (MoR.mo (R := Tu RI) x7 p6)) me_int rfl)))
          obtain ⟨n, en⟩ := Option.isSome_iff_exists.mp hs
          unfold atSpot
          rw [en]
          rfl
        · have e : y = .int o := r7
          subst e
          have hs1 : (lk (spotsOf d.es) o).isSome = true := by
            unfold onShaft at hs
            rw [Bool.and_eq_true] at hs
            exact hs.1
          obtain ⟨n, en⟩ := Option.isSome_iff_exists.mp hs1
          intro _ _ _ _ _
          refine me_cI op_le (me_ixT (R := RI) (ds := [(atSpot d.es o).1, (atSpot d.es o).2]) (me_dget (S := RS) (d := atSpot d.es o) (roomU1 hr) (me_is (me_var 4) (MoR.mo (R := Dn RS) x7 h36)) (me_var 5) ?_) me_int rfl) (me_ixT (R := RI) (me_is (me_var 8) (MoR.mo (R := Tu RI) x7 p6)) me_int rfl)
          unfold atSpot
          rw [en]
          rfl
        · have e : y = .bl _ := p
          rw [e]
          show V.bl _ = V.bl _
          unfold fitsEyes
          rw [hk]
          simp only []
          rw [hA]
          rfl
end
end Wk
set_option Elab.async false
set_option linter.all false
set_option maxRecDepth 100000
set_option maxHeartbeats 4000000
/-! Places. -/
namespace Wk
open PySem PySem.Spec PyProof.Rows L2
section
variable {P : Program} {w : World} {K : PySem.W.Frag} {mg : Str → Option Value} {base : Heap}
def putAt' (order : List Int) (t : Int) (p : Nat) : List Int := order.take p ++ [t] ++ order.drop p
def okKept (order : List Int) (t : Int) (k : Kept) (p : Nat) : Bool := !decide (t ∈ k.threads) || fitsB (putAt' order t p) k
def okPlace (order : List Int) (t : Int) (k : Kept) (rows : List (List Int)) (es : List Led) (p : Nat) : Bool := okKept order t k p && (fitsDents (order.take p) (order.drop p) t rows && fitsEyes (order.take p) (order.drop p) t es)
def placesN (order : List Int) (t : Int) (k : Kept) (rows : List (List Int)) (es : List Led) : List Nat := (List.range (order.length + 1)).filter (okPlace order t k rows es)
def placesIn (order : List Int) (t : Int) (k : Kept) (rows : List (List Int)) (es : List Led) : List Int := (placesN order t k rows es).map fun p : Nat => (p : Int)
structure DP where
  order : List Int
  t : Int
  k : Kept
  rows : List (List Int)
  es : List Led
def DP.res (d : DP) : List Int := placesIn d.order d.t d.k d.rows d.es
structure GoodP (d : DP) : Prop where
  ord : GoodO d.order
  room : d.order.length < 60
  t0 : 0 ≤ d.t ∧ d.t ≤ 99
  no : d.t ∉ d.order
  kept : GoodK d.k
  rows : d.rows = [] ∨ GoodD d.rows
  es : GoodEs d.es
def DP.args (d : DP) : List Pv := [Tu RI d.order, Is (.int d.t), RK d.k, Tu (Tu RI) d.rows, Tu RE d.es]
theorem goodPut {order : List Int} {t : Int} (h : GoodO order) (hl : order.length < 60) (ht : 0 ≤ t ∧ t ≤ 99) (n : t ∉ order) (p : Nat) : GoodO (putAt' order t p) := by
  have pm : (putAt' order t p).Perm (t :: order) := by
    unfold putAt'
    have e : order.take p ++ [t] ++ order.drop p = order.take p ++ t :: order.drop p := by simp
    rw [e]
    refine List.perm_middle.trans ?_
    rw [List.take_append_drop]
  refine ⟨?_, fun m hm => ?_, ?_⟩
  · rw [pm.length_eq, List.length_cons]
    omega
  · rcases List.mem_cons.mp (pm.mem_iff.mp hm) with e | e
    · rw [e]
      exact ht
    · exact h.thr m e
  · rw [pm.nodup_iff, List.nodup_cons]
    exact ⟨n, h.nd⟩
theorem p5 {vs : List V} {P P2 P3 P4 P5 : Pv} {H : Hp} (h : Paired (fun v P => P v H) vs [P, P2, P3, P4, P5]) : ∃ x y z q r, vs = [x, y, z, q, r] ∧ P x H ∧ P2 y H ∧ P3 z H ∧ P4 q H ∧ P5 r H := by
  cases h with
  | cons r t =>
    obtain ⟨y, z, q, u, rfl, h1, h2, h3, h4⟩ := p4 t
    exact ⟨_, _, _, _, _, rfl, r, h1, h2, h3, h4⟩
theorem GoodP.flat {d : DP} (h : GoodP d) : d.rows.flatten.Nodup ∧ d.rows.flatten.length ≤ 900 := by
  rcases h.rows with e | e
  · rw [e]
    simp
  · exact ⟨e.ord.nd, Nat.le_trans e.ord.len (by decide)⟩
abbrev spPlacesIn : Sp := SpN (δ := DP) DP.args GoodP fun d => Li RI d.res
abbrev nPlacesIn : List Str := ["order", "thread", "kept", "reeded", "threaded", "found", "place", "ahead", "behind", "is_kept_so"]
theorem scPlacesIn : FnScope nPlacesIn ["order", "thread", "kept", "reeded", "threaded"] (defScope sPlacesIn) := ⟨rfl, rfl, rfl, by decide +kernel, rfl, by decide +kernel, by decide +kernel⟩
theorem filterRange (n : Nat) (p : Nat → Bool) : (List.range (n + 1)).filter p = (List.range n).filter p ++ (if p n = true then [n] else []) := by
  rw [List.range_succ, List.filter_append]
  cases h : p n <;> simp [h]
theorem hPlacesIn (B : Bl mg) (D : Df K mg "places_in" sPlacesIn) (G1 : Has P w K mg base CX0 "fits" 8 ["order", "kept"] spFits) (G2 : Has P w K mg base CX0 "fits_dents" 1 ["ahead", "behind", "thread", "reeded"] spFitsDents) (G3 : Has P w K mg base CX0 "fits_eyes" 1 ["ahead", "behind", "thread", "threaded"] spFitsEyes) :
    Has P w K mg base CX0 "places_in" 9 ["order", "thread", "kept", "reeded", "threaded"] spPlacesIn :=
  .mkN D scPlacesIn (fun _ _ _ _ _ _ us hl => match us, hl with | [_, _, _, _, _], _ => rfl) (fun _ => rfl) fun f cdv A outer s H vs Q E d hr ho ha q => by
    obtain ⟨vo, vt, vk, vr, ve, rfl, h1, h2, h3, h4, h5⟩ := p5 ha
    have h2' : vt = .int d.t := h2
    subst h2'
    obtain ⟨fl1, fl2⟩ := ho.flat
    have lo := ho.ord.len
    have hroom := ho.room
    refine wss_cons (ws_set 5 scPlacesIn.nd (MN.we (mn_lst ma_nil moNil (Nat.zero_le _)) fun p H1 np x1 hl => ?_))
    obtain ⟨p', xs, e, hp, hn⟩ := hl
    cases e
    cases hn
    obtain ⟨t, x, y, z, rfl, ht, hx, hy, hz⟩ := h3
    have h3 : RK d.k (.ref t) H := ⟨t, x, y, z, rfl, ht, hx, hy, hz⟩
    refine wss_cons (ws_for (· = p) (fun i σ H3 => ∃ g g2 g3 g4, σ = [some vo, some (.int d.t), some (.ref t), some vr, some ve, some (.ref p), g, g2, g3, g4] ∧ Ex H H3 ∧ H3 p = some (.lst (((List.range i).filter (okPlace d.order d.t d.k d.rows d.es)).map fun p : Nat => V.int (p : Int))))
      (mi_range B.range (me_I0 op_add (me_lenT B (me_is (me_var 0) h1)) me_int) (by omega) (by omega)) x1 (fun b e => by rw [e, hp]; exact ⟨np, fun z => nomatch z⟩) PassesOwn.never rfl
      (fun H2 x2 => ⟨none, none, none, none, rfl, x1.trans x2, x2 _ _ hp⟩) (fun i u σ H3 H4 hi ⟨g, g2, g3, g4, e, b3, h6⟩ x4 hu => ?_) fun σ H3 ⟨g, g2, g3, g4, e, b3, h6⟩ => ?_)
    · subst e
      subst hu
      have hi' : i < d.order.length + 1 := by omega
      refine wg_name 6 scPlacesIn.nd ?_
      have x04 := b3.trans x4
      have h14 := MoR.mo (R := Tu RI) x04 h1
      refine wss_cons (ws_par 7 8 scPlacesIn.nd (ma_cons (me_take (k := i) (me_is (me_var 0) h14) (me_var 6)) (ma_cons (me_drop (k := i) (me_is (me_var 0) h14) (me_var 6)) ma_nil)) fun va vb H5 x5 ra rb => ?_)
      have x05 := x04.trans x5
      have la : (d.order.take i).length ≤ 60 := Nat.le_trans (List.length_take_le' _ _) lo
      have lb : (d.order.drop i).length ≤ 60 := by
        rw [List.length_drop]
        omega
      refine wss_cons (ws_set 9 scPlacesIn.nd (ME.we (me_or (k := !decide (d.t ∈ d.k.threads)) (j := fitsB (putAt' d.order d.t i) d.k) (me_niT (me_var 1) (me_is (me_ixTV (me_var 2) me_int (rdMo x05 ht) rfl) (MoR.mo (R := Tu RI) x05 hx))) fun hm => me_one
        (me_callD (putAt' d.order d.t i, d.k) G1 hr ⟨goodPut ho.ord hroom ho.t0 ho.no i, ho.kept⟩ (ma_cons (me_cat (me_cat (me_is (me_var 7) ra) ((mn_tup (ma_cons (me_is (me_var 1) (show RI d.t (.int d.t) H5 from rfl)) ma_nil) (moCons moNil) (by simp)).me.imp fun v H x h => TuP.tu (ds := [d.t]) h) (by simp; omega)) (me_is (me_var 8) rb) (by simp; omega))
          (ma_cons (me_is (me_var 2) (Im.im (R := RK) (tkEx x05) h3)) ma_nil)))) fun vs H6 x6 p6 => ?_))
      have p6' : vs = .bl (okKept d.order d.t d.k i) := p6
      subst p6'
      have x06 := x05.trans x6
      have ra6 := MoR.mo (R := Tu RI) x6 ra
      have rb6 := MoR.mo (R := Tu RI) x6 rb
      refine wss_one (ws_if (MT.wt (k := okPlace d.order d.t d.k d.rows d.es i) (MW.mt (mw_and (mt_val (me_var 9)) fun _ => mw_and (mt_val (me_callD (⟨d.order.take i, d.order.drop i, d.t, d.rows⟩ : DD) G2 (hr.mono (by decide)) ⟨by simp only []; omega, by simp only []; omega, fl1, fl2⟩ (ma_cons (me_is (me_var 7) ra6) (ma_cons (me_is (me_var 8) rb6) (ma_cons (me_var 1) (ma_cons (me_is (me_var 3) (MoR.mo (R := Tu (Tu RI)) x06 h4)) ma_nil)))))) fun _ =>
        mw_and1 (mt_val (me_callD (⟨d.order.take i, d.order.drop i, d.t, d.es⟩ : DE) G3 (hr.mono (by decide)) ⟨by simp only []; omega, by simp only []; omega, ho.es.ord.nd, by
          have := ho.es.ord.len
          rw [List.length_map] at this
          simp only []
          omega⟩ (ma_cons (me_is (me_var 7) ra6) (ma_cons (me_is (me_var 8) rb6) (ma_cons (me_var 1) (ma_cons (me_is (me_var 4) (MoR.mo (R := Tu RE) x06 h5)) ma_nil)))))))) fun H7 x7 => ?_))
      have x37 := (x4.trans x5).trans (x6.trans x7)
      have h67 := x37 _ _ h6
      cases hb : okPlace d.order d.t d.k d.rows d.es i with
      | true =>
        refine iteT (wss_one (ws_expr (we_append h67 (me_var 5) (me_var 6) ?_ fun v H8 x8 e => ⟨⟨_, _, _, _, rfl, ?_, ?_⟩, ?_⟩)))
        · rw [List.length_map]
          refine Nat.le_trans (List.length_filter_le _ _) ?_
          rw [List.length_range]
          omega
        · exact ExB.off (D := (· = p)) (b3.trans (x37.trans x8)) (ExB.up rfl) fun b e => by rw [e]; exact np
        · have e' : v = V.int (i : Int) := e
          rw [e', filterRange, hb, List.map_append]
          exact upd_same
        · exact (ExB.of (x37.trans x8)).trans (ExB.up rfl)
      | false =>
        refine iteF (wss_nil ⟨⟨_, _, _, _, rfl, b3.trans x37, ?_⟩, ExB.of x37⟩)
        rw [filterRange, hb]
        simpa using h67
    · subst e
      refine wss_one (ws_ret (ME.we (me_var 5) fun u H4 x4 e => ?_))
      have e' : u = V.ref p := e
      rw [e']
      refine q p H4 np (b3.trans x4) (liI.mpr ⟨p, rfl, ?_⟩)
      have h8 := x4 _ _ h6
      have e2 : ((d.order.length : Int) + 1).toNat = d.order.length + 1 := by omega
      rw [e2] at h8
      rw [h8]
      unfold DP.res placesIn placesN
      rw [List.map_map]
      rfl

/-! ### what is asked first -/
structure GoodQ (o : List Int) (t : Int) : Prop where
  ord : GoodO o
  room : o.length < 60
  t0 : 0 ≤ t ∧ t ≤ 99
  no : t ∉ o
abbrev spNeedOthers : Sp := SpD (δ := List Int × Int) (fun d => [Tu RI d.1, Is (.int d.2)]) (fun d => GoodQ d.1 d.2) fun _ => Is .non
theorem scNeedOthers : FnScope ["order", "thread"] ["order", "thread"] (defScope sNeedOthers) := ⟨rfl, rfl, rfl, by decide +kernel, rfl, by decide +kernel, by decide +kernel⟩
theorem hNeedOthers (B : Bl mg) (D : Df K mg "need_others" sNeedOthers) (G1 : Has P w K mg base CX0 "need_order" 4 ["thing"] spNeedOrder) (G2 : Has P w K mg base CX0 "need_thread" 3 ["thing"] spNeedThread) (c : ∃ t, mg "MOST_ENDS" = some (.int 60 t)) : Has P w K mg base CX0 "need_others" 5 ["order", "thread"] spNeedOthers :=
  .mkD D scNeedOthers (fun _ _ _ _ _ _ us hl => match us, hl with | [_, _], _ => rfl) (fun _ => rfl) fun f cdv A outer s H vs Q E d hr ho ha q => by
    obtain ⟨v, u, rfl, h1, h2⟩ := p2 ha
    have h2' : u = .int d.2 := h2
    subst h2'
    refine wss_cons (ws_expr (ME.we (me_callD d.1 G1 hr ho.ord (ma_cons (me_is (me_var 0) h1) ma_nil) (P' := Any) (hP := fun _ _ _ => trivial)) fun _ H1 x1 _ => ?_))
    have h1' := MoR.mo (R := Tu RI) x1 h1
    refine wss_cons (ws_if (MT.wt (k := false) (MT.is (mt_eqS (me_lenT B (me_is (me_var 0) h1')) (me_gi c)) (decide_eq_false (fun e => by
      have e' := V.int.inj e
      have := ho.room
      omega))) fun H2 x2 => iteF (wss_nil ?_)))
    refine wss_cons (ws_expr (ME.we (me_callD d.2 G2 (hr.mono (by decide)) ho.t0 (ma_cons (me_var 1) ma_nil) (P' := Any) (hP := fun _ _ _ => trivial)) fun _ H3 x3 _ => ?_))
    refine wss_one (ws_if (MT.wt (k := false) (MT.is (mt_inT (me_var 1) (me_is (me_var 0) (MoR.mo (R := Tu RI) (x2.trans x3) h1'))) (decide_eq_false ho.no)) fun H4 x4 => iteF (wss_nil (q _ H4 ((x1.trans x2).trans (x3.trans x4)) rfl))))
structure DT where
  k : Kept
  rows : List (List Int)
  es : List Led
abbrev spNeedTold : Sp := SpD (δ := DT) (fun d => [RK d.k, Tu (Tu RI) d.rows, Tu RE d.es]) (fun d => GoodK d.k ∧ (d.rows = [] ∨ GoodD d.rows) ∧ GoodEs d.es) fun _ => Is .non
theorem scNeedTold : FnScope ["kept", "reeded", "threaded"] ["kept", "reeded", "threaded"] (defScope sNeedTold) := ⟨rfl, rfl, rfl, by decide +kernel, rfl, by decide +kernel, by decide +kernel⟩
abbrev encTT := enc_tu encT
theorem hNeedTold (B : Bl mg) (D : Df K mg "need_told" sNeedTold) (G1 : Has P w K mg base CX0 "need_kept" 7 ["thing"] spNeedKept) (G2 : Has P w K mg base CX0 "need_dents" 5 ["thing"] spNeedDents) (G3 : Has P w K mg base CX0 "need_eyes" 6 ["thing"] spNeedEyes) : Has P w K mg base CX0 "need_told" 8 ["kept", "reeded", "threaded"] spNeedTold :=
  .mkD D scNeedTold (fun _ _ _ _ _ _ us hl => match us, hl with | [_, _, _], _ => rfl) (fun _ => rfl) fun f cdv A outer s H vs Q E d hr ho ha q => by
    obtain ⟨v, u, z, rfl, h1, h2, h3⟩ := p3 ha
    obtain ⟨o1, o2, o3⟩ := ho
    refine wss_cons (ws_expr (ME.we (me_callD d.k G1 hr o1 (ma_cons (me_is (me_var 0) h1) ma_nil) (P' := Any) (hP := fun _ _ _ => trivial)) fun _ H1 x1 _ => ?_))
    have fin : ∀ H2, Ex H1 H2 → WSs (cx0 P w K mg base ["kept", "reeded", "threaded"] "need_told" sNeedTold f cdv A outer s H E) [(defBody sNeedTold).getD 2 (.Pass ⟨0, 0, 0, 0⟩)] { nx := fun _ H' => Q .non H', rt := Q } (start ["kept", "reeded", "threaded"] [v, u, z]) H2 := fun H2 x2 =>
      wss_one (ws_expr (ME.we (me_callD d.es G3 (hr.mono (by decide)) o3 (ma_cons (me_is (me_var 2) (MoR.mo (R := Tu RE) (x1.trans x2) h3)) ma_nil) (P' := Any) (hP := fun _ _ _ => trivial)) fun _ H3 x3 _ => q _ H3 (x1.trans (x2.trans x3)) rfl))
    have h2' := MoR.mo (R := Tu (Tu RI)) x1 h2
    refine wss_cons (ws_if (MT.wt (mt_neD (d' := []) encTT hr.units (me_is (me_var 1) h2') ((mn_tup ma_nil moNil (Nat.zero_le _)).me.imp fun v H x h => TuP.tu (ds := ([] : List (List Int))) h)) fun H2 x2 => ?_))
    by_cases he : d.rows = []
    · rw [decide_eq_true he]
      exact iteF (wss_nil (fin H2 x2))
    · rw [decide_eq_false he]
      refine iteT (wss_one (ws_expr (ME.we (me_callD d.rows G2 (hr.mono (by decide)) (o2.resolve_left he) (ma_cons (me_is (me_var 1) (MoR.mo (R := Tu (Tu RI)) x2 h2')) ma_nil) (P' := Any) (hP := fun _ _ _ => trivial)) fun _ H3 x3 _ => fin H3 (x2.trans x3))))
abbrev spPlaces : Sp := spPlacesIn
theorem scPlaces : FnScope ["order", "thread", "kept", "reeded", "threaded"] ["order", "thread", "kept", "reeded", "threaded"] (defScope sPlaces) := ⟨rfl, rfl, rfl, by decide +kernel, rfl, by decide +kernel, by decide +kernel⟩
theorem hPlaces (D : Df K mg "places" sPlaces) (G1 : Has P w K mg base CX0 "need_others" 5 ["order", "thread"] spNeedOthers) (G2 : Has P w K mg base CX0 "need_told" 8 ["kept", "reeded", "threaded"] spNeedTold) (G3 : Has P w K mg base CX0 "places_in" 9 ["order", "thread", "kept", "reeded", "threaded"] spPlacesIn) :
    Has P w K mg base CX0 "places" 10 ["order", "thread", "kept", "reeded", "threaded"] spPlaces :=
  .mkN D scPlaces (fun _ _ _ _ _ _ us hl => match us, hl with | [_, _, _, _, _], _ => rfl) (fun _ => rfl) fun f cdv A outer s H vs Q E d hr ho ha q => by
    obtain ⟨vo, vt, vk, vr, ve, rfl, h1, h2, h3, h4, h5⟩ := p5 ha
    have h2' : vt = .int d.t := h2
    subst h2'
    refine wss_cons (ws_expr (ME.we (me_callD (d.order, d.t) G1 (hr.mono (by decide)) ⟨ho.ord, ho.room, ho.t0, ho.no⟩ (ma_cons (me_is (me_var 0) h1) (ma_cons (me_var 1) ma_nil)) (P' := Any) (hP := fun _ _ _ => trivial)) fun _ H1 x1 _ => ?_))
    refine wss_cons (ws_expr (ME.we (me_callD (⟨d.k, d.rows, d.es⟩ : DT) G2 (hr.mono (by decide)) ⟨ho.kept, ho.rows, ho.es⟩ (ma_cons (me_is (me_var 2) (Im.im (R := RK) (tkEx x1) h3)) (ma_cons (me_is (me_var 3) (MoR.mo (R := Tu (Tu RI)) x1 h4)) (ma_cons (me_is (me_var 4) (MoR.mo (R := Tu RE) x1 h5)) ma_nil))) (P' := Any) (hP := fun _ _ _ => trivial)) fun _ H2 x2 _ => ?_))
    have x12 := x1.trans x2
    exact wss_one (ws_ret (MN.we (mn_callD d G3 hr ho (ma_cons (me_is (me_var 0) (MoR.mo (R := Tu RI) x12 h1)) (ma_cons (me_var 1) (ma_cons (me_is (me_var 2) (Im.im (R := RK) (tkEx x12) h3)) (ma_cons (me_is (me_var 3) (MoR.mo (R := Tu (Tu RI)) x12 h4)) (ma_cons (me_is (me_var 4) (MoR.mo (R := Tu RE) x12 h5)) ma_nil))))) (P' := Li RI d.res)) fun a H3 na x3 r => q a H3 (Evl.fresh_back x12 na) (x12.trans x3) r))
end
end Wk
set_option Elab.async false
set_option linter.all false
set_option maxRecDepth 100000
set_option maxHeartbeats 4000000
/-! Dicts whose keys are tuples of whole numbers and None, by their own objects. -/
namespace Wk
open PySem PySem.Spec PyProof.Rows L2

abbrev NK := NestedKey
/-- the object o stands at a -/
def RawO (a : Addr) (o : Obj) : HO := .ext fun h => h.get? a = some o
theorem rawOk {P : Program} {w : World} {H : Hp} {h : Heap} {a : Addr} {o : Obj} (e : h.get? a = some o) : ObjOk P w H h a (RawO a o) := ⟨e, ⟨o, e⟩, fun _ _ x k => k o x⟩
section
variable {X : Cx} {pins : List (Addr × Obj)} {σ : L2.St} {H : Hp} {s : Shared}
theorem rawAt {a : Addr} {o : Obj} (I : Inv X pins σ H s) (e : H a = some (RawO a o)) : s.heap.get? a = some o := by
  have x : ObjOk X.prog X.w H s.heap a (RawO a o) := I.hok a _ e
  exact x.1
end
abbrev KX : List (NK × Addr × V) → List (NK × Addr × Value) → Prop := Paired fun p q => p.1 = q.1 ∧ p.2.1 = q.2.1 ∧ RelV p.2.2 q.2.2
def atX (es : List (NK × Addr × V)) (k : NK) : Option V := (es.find? fun p => decide (p.1 = k)).map (·.2.2)
def setX (k : NK) (v : V) (p : NK × Addr × V) : NK × Addr × V := if p.1 = k then (p.1, p.2.1, v) else p
def putX (es : List (NK × Addr × V)) (k : NK) (b : Addr) (v : V) : List (NK × Addr × V) := if (atX es k).isSome = true then es.map (setX k v) else es ++ [(k, b, v)]
theorem atXCons {p : NK × Addr × V} {es : List (NK × Addr × V)} {k : NK} : atX (p :: es) k = if p.1 = k then some p.2.2 else atX es k := by
  unfold atX
  rw [List.find?_cons]
  by_cases h : p.1 = k
  · rw [decide_eq_true h, if_pos h]
    rfl
  · rw [decide_eq_false h, if_neg h]
theorem atKCons {p : NK × Addr × Value} {es : List (NK × Addr × Value)} {k : NK} : atKey (p :: es) k = if p.1 = k then some p.2 else atKey es k := by
  unfold atKey
  rw [List.find?_cons]
  by_cases h : p.1 = k
  · rw [decide_eq_true h, if_pos h]
    rfl
  · rw [decide_eq_false h, if_neg h]
theorem kxVal {es : List (NK × Addr × V)} {xs : List (NK × Addr × Value)} (r : KX es xs) (k : NK) : RelO (atX es k) ((atKey xs k).map (·.2)) := by
  unfold KX at r
  induction r with
  | nil => exact True.intro
  | @cons p q ps qs h t ih =>
    rw [atXCons, atKCons]
    by_cases e : p.1 = k
    · rw [if_pos e, if_pos (h.1.symm.trans e)]
      exact h.2.2
    · rw [if_neg e, if_neg (fun z => e (h.1.trans z))]
      exact ih
theorem kxIsSome {es : List (NK × Addr × V)} {xs : List (NK × Addr × Value)} (r : KX es xs) (k : NK) : (atX es k).isSome = (atKey xs k).isSome := by
  have := (kxVal r k).isSome_eq
  rw [Option.isSome_map] at this
  exact this
theorem kxSet {es : List (NK × Addr × V)} {xs : List (NK × Addr × Value)} (r : KX es xs) (k : NK) {v : V} {u : Value} (h : RelV v u) : KX (es.map (setX k v)) (xs.map (putAt k u)) := by
  unfold KX at r
  induction r with
  | nil => exact .nil
  | @cons p q ps qs hh t ih =>
    refine .cons ?_ ih
    unfold setX putAt
    by_cases e : p.1 = k
    · rw [if_pos e, if_pos (hh.1.symm.trans e)]
      exact ⟨hh.1, hh.2.1, h⟩
    · rw [if_neg e, if_neg (fun z => e (hh.1.trans z))]
      exact hh
theorem kxPut {es : List (NK × Addr × V)} {xs : List (NK × Addr × Value)} (r : KX es xs) (k : NK) (b : Addr) {v : V} {u : Value} (h : RelV v u) : KX (putX es k b v) (storedH xs k b u) := by
  unfold putX storedH
  rw [kxIsSome r k]
  split
  · exact kxSet r k h
  · exact pApp r (.cons ⟨rfl, rfl, h⟩ .nil)
theorem putXLen (es : List (NK × Addr × V)) (k : NK) (b : Addr) (v : V) : (putX es k b v).length ≤ es.length + 1 := by
  unfold putX
  split
  · rw [List.length_map]
    omega
  · rw [List.length_append]
    exact Nat.le_refl _
/-- o is a dict's object with these entries -/
structure DF (P : Program) (w : World) (a : Addr) (o : Obj) (es : List (NK × Addr × V)) : Prop where
  z : es.length ≤ sizeLine
  sys : (a == sysModules) = false
  obj : ∃ xs ar ep, KX es xs ∧ o.ExactDict ∧ o.data = .dict ar ep ∧ ar.toList = xs.map (entryOfKey (nestedKind P w)) ∧ (xs.map (·.1)).Nodup
/-- what stands at b is the key k -/
def KeyAt (H : Hp) (k : NK) (b : Addr) : Prop := ∀ (X : Cx) (pins : List (Addr × Obj)) (σ : L2.St) (s : Shared), Inv X pins σ H s → (nestedKind X.prog X.w).is s.heap k b
/-- the dict at a -/
structure DAt (P : Program) (w : World) (H : Hp) (a : Addr) (o : Obj) (es : List (NK × Addr × V)) : Prop where
  at' : H a = some (RawO a o)
  df : DF P w a o es
  keys : ∀ e ∈ es, KeyAt H e.1 e.2.1
section
variable {X : Cx} {pins : List (Addr × Obj)} {σ : L2.St} {H : Hp} {s : Shared} {a : Addr} {o : Obj} {es : List (NK × Addr × V)}
theorem kxKeys {xs : List (NK × Addr × Value)} (r : KX es xs) {Q : NK → Addr → Prop} (h : ∀ e ∈ es, Q e.1 e.2.1) : ∀ x ∈ xs, Q x.1 x.2.1 := by
  unfold KX at r
  induction r with
  | nil => exact fun x hx => nomatch hx
  | @cons p q ps qs hh t ih =>
    intro x hx
    rcases List.mem_cons.mp hx with e | e
    · rw [e, ← hh.1, ← hh.2.1]
      exact h p List.mem_cons_self
    · exact ih (fun e he => h e (List.mem_cons_of_mem _ he)) x e
theorem DAt.is (D : DAt X.prog X.w H a o es) (I : Inv X pins σ H s) : ∃ xs, KX es xs ∧ s.heap.DictOfH (nestedKind X.prog X.w) a xs := by
  obtain ⟨xs, ar, ep, r, hx, hd, he, hn⟩ := D.df.obj
  exact ⟨xs, r, o, ar, ep, rawAt I D.at', hx, hd, he, kxKeys r (Q := fun k b => (nestedKind X.prog X.w).is s.heap k b) fun e h => D.keys e h X pins σ s I, hn⟩
theorem DAt.raw (D : DAt X.prog X.w H a o es) (I : Inv X pins σ H s) : ∃ ar ep, s.heap.get? a = some o ∧ o.ExactDict ∧ o.data = .dict ar ep ∧ ar.size = es.length ∧ ∀ (i : Nat) (e : NK × Addr × V), es[i]? = some e → ∃ en : DictEntry, ar[i]? = some en ∧ en.key = .ref e.2.1 ∧ RelV e.2.2 en.val := by
  obtain ⟨xs, ar, ep, r, hx, hd, he, hn⟩ := D.df.obj
  refine ⟨ar, ep, rawAt I D.at', hx, hd, ?_, fun i e h => ?_⟩
  · rw [← Array.length_toList, he, List.length_map, pLen r]
  · have hq : ∃ q : NK × Addr × Value, xs[i]? = some q ∧ e.1 = q.1 ∧ e.2.1 = q.2.1 ∧ RelV e.2.2 q.2.2 := by
      clear hn he D
      induction r generalizing i with
      | nil => cases h
      | @cons p q ps qs hh t ih =>
        cases i with
        | zero =>
          cases h
          exact ⟨q, rfl, hh⟩
        | succ i => exact ih i (by simpa using h)
    obtain ⟨q, h1, h2, h3, h4⟩ := hq
    exact ⟨entryOfKey (nestedKind X.prog X.w) q, by rw [← Array.getElem?_toList, he, List.getElem?_map, h1]; rfl, by rw [h3]; rfl, h4⟩
theorem roomX {k : Nat} {A : Around} (h : Room k A) : (nestedKind X.prog X.w).room A.in1 := by
  show A.units + 1 + 8 < cLine
  have := h.un
  omega
theorem roomX2 {k : Nat} {A : Around} (h : Room k A) : (nestedKind X.prog X.w).room A.in1.in1 := by
  show A.units + 1 + 1 + 8 < cLine
  have := h.un
  omega
theorem DF.nil {P : Program} {w : World} {a : Addr} (h : (a == sysModules) = false) : DF P w a { cls := .type "dict", data := .dict #[] } [] := ⟨Nat.zero_le _, h, [], #[], 0, .nil, ⟨rfl, rfl, rfl⟩, rfl, rfl, List.nodup_nil⟩
/-- from the heap behind a change -/
theorem dfOf {P : Program} {w : World} {h : Heap} {xs : List (NK × Addr × Value)} (r : KX es xs) (z : es.length ≤ sizeLine) (hs : (a == sysModules) = false) (d : h.DictOfH (nestedKind P w) a xs) : ∃ o, h.get? a = some o ∧ DF P w a o es := by
  obtain ⟨o, ar, ep, h1, h2, h3, h4, _, h5⟩ := d
  exact ⟨o, h1, z, hs, xs, ar, ep, r, h2, h3, h4, h5⟩
end

/-! ### readings, rules -/
def tXGet (P : Program) (w : World) (td ty : TE) : TE := fun σ H Q => td σ H fun x H1 => ty σ H1 fun y H2 => ∃ a o es k b v, x = .ref a ∧ y = .ref b ∧ DAt P w H2 a o es ∧ KeyAt H2 k b ∧ atX es k = some v ∧ Q v H2
def tXNot (P : Program) (w : World) (ty td : TE) : TE := fun σ H Q => ty σ H fun y H1 => td σ H1 fun x H2 => ∃ a o es k b, x = .ref a ∧ y = .ref b ∧ DAt P w H2 a o es ∧ KeyAt H2 k b ∧ Q (.bl (!(atX es k).isSome)) H2
def sXPut (P : Program) (w : World) (td ty tv : TE) : TS := fun D σ H => tv σ H fun v H1 => td σ H1 fun x H2 => ty σ H2 fun y H3 => ∃ a o es k b, x = .ref a ∧ y = .ref b ∧ DAt P w H3 a o es ∧ KeyAt H3 k b ∧ es.length < sizeLine ∧
  ∀ o', DF P w a o' (putX es k b v) → D.nx σ (upd H3 a (RawO a o'))
section
variable {X : Cx} {o i e value : Expr} {pos pos' tpos : Pos} {td ty tv : TE} {k : Nat}
theorem pe_xget (hr : Room k X.A) (ho : PE X o td) (hi : PE X i ty) (hs : NoSl i) : PE X (.Subscript o i pos) (tXGet X.prog X.w td ty) := by
  refine ⟨fun pins s σ H Q I h => ?_⟩
  refine subD_of PySem.F.slot_dict_getitem.lookup hs (thn (ho.run pins s σ H _ I h) fun u s1 ⟨x, H1, I1, rx, q1⟩ => thn (hi.run pins s1 σ H1 _ I1 q1) fun iv s2 ⟨y, H2, I2, ry, a, ob, es, kk, b, v, ex, ey, D, ka, hv, q2⟩ => ?_)
  subst ex ey
  obtain rfl : u = Value.ref a := rx
  obtain rfl : iv = Value.ref b := ry
  obtain ⟨xs, r, d⟩ := D.is I2
  obtain ⟨w', hw, rw'⟩ := RelO.some_of (v := v) (o := (atKey xs kk).map (·.2)) (by rw [← hv]; exact kxVal r kk)
  obtain ⟨p, hp, hp2⟩ := Option.map_eq_some_iff.mp hw
  refine ⟨d.typeIs, wpAny_getItem_heap (roomX hr) (ka X pins σ s2 I2) d hp ?_⟩
  rw [hp2]
  exact ⟨v, H2, I2.tok _, rw', q2⟩
theorem pc_xnot (hr : Room k X.A) (hi : PE X i ty) (ho : PE X o td) : PC X .NotIn i o (tXNot X.prog X.w ty td) := by
  refine ⟨fun pins s σ H Q I h => ?_⟩
  refine thn (hi.run pins s σ H _ I h) fun iv s1 ⟨y, H1, I1, ry, q1⟩ => thn (ho.run pins s1 σ H1 _ I1 q1) fun u s2 ⟨x, H2, I2, rx, a, ob, es, kk, b, ex, ey, D, ka, q2⟩ => ?_
  subst ex ey
  obtain rfl : u = Value.ref a := rx
  obtain rfl : iv = Value.ref b := ry
  obtain ⟨xs, r, d⟩ := D.is I2
  refine wpAny_notIn_heap (roomX hr) (ka X pins σ s2 I2) D.df.sys d ?_
  rw [← kxIsSome r kk]
  exact ⟨.bl _, H2, I2.tok _, rfl, q2⟩
theorem ps_xput (hr : Room k X.A) (ho : PE X o td) (hi : PE X i ty) (hv : PE X value tv) (hs : swapsWith value (some (.Subscript o i pos')) pos.line X.env = pure false) :
    PS X (.Assign [.Subscript o i pos'] value pos) (sXPut X.prog X.w td ty tv) := by
  refine ⟨fun pins s σ H D I h => ?_⟩
  refine wpAny_Assign_Subscript (thn (hv.run pins s σ H _ I h) fun r s1 ⟨v, H1, I1, rv, q1⟩ => thn (ho.run pins s1 σ H1 _ I1 q1) fun u s2 ⟨x, H2, I2, rx, q2⟩ => thn (hi.run pins s2 σ H2 _ I2 q2) fun iv s3 ⟨y, H3, I3, ry, a, ob, es, kk, b, ex, ey, DA, ka, hz, q3⟩ => ?_) hs
  subst ex ey
  obtain rfl : u = Value.ref a := rx
  obtain rfl : iv = Value.ref b := ry
  obtain ⟨xs, rel, d⟩ := DA.is I3
  refine wpAny_setItem_heap (roomX hr) (ka X pins σ s3 I3) d (fun h' d' hs' => ?_) (by rw [← pLen rel]; omega)
  obtain ⟨o', e', f'⟩ := dfOf (P := X.prog) (w := X.w) (kxPut rel kk b rv) (Nat.le_trans (putXLen _ _ _ _) (by omega)) DA.df.sys d'
  exact ⟨σ, _, I3.write (x := a) (e := a) (by rw [DA.at']; exact True.intro) (.inl rfl) (fun c q hb z => (hs'.2 c hb).trans z) ⟨o', e'⟩ (rawOk e'), q3 o' f'⟩
/-- {} -/
def tXNew (P : Program) (w : World) : TE := fun _ H Q => ∀ p o, H p = none → DF P w p o [] → Q (.ref p) (upd H p (RawO p o))
theorem pe_xnew : PE X (.Dict [] [] pos) (tXNew X.prog X.w) := ⟨fun pins s σ H Q I h =>
  wpAny_Dict_empty ⟨.ref s.heap.objs.size, _, I.laid (a := s.heap.objs.size) (o := RawO s.heap.objs.size _) (t' := s.toks) (fun _ _ q => Heap.get?_push_of_some _ q) (Nat.le_refl _) (rawOk (Heap.get?_push_size _ rfl)), rfl,
    h _ _ (I.hok.fresh (Nat.le_refl _)) (.nil (beq_eq_false_iff_ne.mpr (Ne.symm (Nat.ne_of_lt I.big))))⟩⟩
/-- {k: v} -/
def tXOne (P : Program) (w : World) (tk tv : TE) : TE := fun σ H Q => ∀ p o, H p = none → DF P w p o [] → tk σ (upd H p (RawO p o)) fun x H1 => tv σ H1 fun v H2 => ∃ kk b, x = .ref b ∧ H2 p = some (RawO p o) ∧ KeyAt H2 kk b ∧
  ∀ o', DF P w p o' [(kk, b, v)] → Q (.ref p) (upd H2 p (RawO p o'))
theorem pe_xone {kx vx : Expr} {tk tv : TE} (hr : Room k X.A) (hk : PE X kx tk) (hv : PE X vx tv) : PE X (.Dict [some kx] [vx] pos) (tXOne X.prog X.w tk tv) := by
  refine ⟨fun pins s σ H Q I q => ?_⟩
  have hn := I.hok.fresh (Nat.le_refl s.heap.objs.size)
  have I1 := I.laid (a := s.heap.objs.size) (o := RawO s.heap.objs.size { cls := .type "dict", data := .dict #[] }) (h' := s.heap.push { cls := .type "dict", data := .dict #[] }) (t' := s.toks) (fun _ _ q => Heap.get?_push_of_some _ q) (Nat.le_refl _) (rawOk (Heap.get?_push_size _ rfl))
  have hsys : (s.heap.objs.size == sysModules) = false := beq_eq_false_iff_ne.mpr (Ne.symm (Nat.ne_of_lt I.big))
  have q1 := q s.heap.objs.size { cls := .type "dict", data := .dict #[] } hn (.nil hsys)
  have lenp := pairTrees_length [some kx] [vx] X.env pos rfl rfl
  have ne : pairTrees [some kx] [vx] X.env pos ≠ [] := fun e => by
    rw [e] at lenp
    cases lenp
  rw [arm_eval_Dict, zip_pairTrees [some kx] [vx] X.env pos rfl rfl, dictDisplay_pairs _ ne (by rw [lenp]; simp)]
  refine wpAny_bind (wpAny_standAt (wpAny_bind (wpAny_subDictH (knd := nestedKind X.prog X.w) (Q := fun d s' => wpAny (model X.prog X.w) X.A (pure (Value.ref d)) (EP X pins σ Q) X.xe s') (by show X.A.units + 8 < cLine; have := hr.un; omega) (by rw [lenp]; simp) ?_)))
  refine pairTrees_cons_walk (thn (hk.run pins _ σ _ _ I1 q1) fun u s1 ⟨x, H1, I2, rx, q2⟩ => thn (hv.run pins s1 σ H1 _ I2 q2) fun r s2 ⟨v, H2, I3, rv, kk, b, ex, hp, ka, q3⟩ => pairTrees_nil_walk ?_)
  subst ex
  obtain rfl : u = Value.ref b := rx
  have D : DAt X.prog X.w H2 s.heap.objs.size { cls := .type "dict", data := .dict #[] } [] := ⟨hp, .nil hsys, fun e h => nomatch h⟩
  obtain ⟨xs, rel, d⟩ := D.is I3
  cases rel
  refine ⟨[(kk, b, r)], ⟨rfl, rfl, ka X pins σ s2 I3, trivial⟩, d, fun h' tk d' hs' => wpAny_pure ?_⟩
  have rel' : KX [(kk, b, v)] (storedAllH [] [(kk, b, r)]) := .cons ⟨rfl, rfl, rv⟩ .nil
  obtain ⟨o', e', f'⟩ := dfOf (P := X.prog) (w := X.w) rel' (by show 1 ≤ sizeLine; decide) hsys d'
  exact ⟨.ref s.heap.objs.size, _, I3.write (x := s.heap.objs.size) (e := s.heap.objs.size) (by rw [hp]; exact True.intro) (.inl rfl) (fun c q hb z => (hs'.2 c hb).trans z) ⟨o', e'⟩ (rawOk e'), rfl, q3 o' f'⟩
end
end Wk
set_option Elab.async false
set_option linter.all false
set_option maxRecDepth 100000
set_option maxHeartbeats 4000000
/-! Dicts by their own objects: walked by keys, by items; listed; made of pairs; their length. -/
namespace Wk
open PySem PySem.Spec PyProof.Rows L2

/-- the keys, as the dict stands -/
def ItX (d : Addr) (o : Obj) (es : List (NK × Addr × V)) : It :=
  ⟨fun i H => H d = some (RawO d o) ∧ i < es.length, fun i H x H' => H' = H ∧ ∃ e, es[i]? = some e ∧ x = .ref e.2.1, fun i H => H d = some (RawO d o) ∧ es.length ≤ i⟩
/-- the pairs, each a new tuple -/
def ItXi (d : Addr) (o : Obj) (es : List (NK × Addr × V)) : It :=
  ⟨fun i H => H d = some (RawO d o) ∧ i < es.length, fun i H x H' => ∃ T e, es[i]? = some e ∧ x = .ref T ∧ H T = none ∧ H' = upd H T (.tup [.ref e.2.1, e.2.2]), fun i H => H d = some (RawO d o) ∧ es.length ≤ i⟩
/-- what of the entries the walks need -/
theorem DF.ents {P : Program} {w : World} {a : Addr} {o : Obj} {es : List (NK × Addr × V)} (D : DF P w a o es) : ∃ ar ep, o.ExactDict ∧ o.data = .dict ar ep ∧ ar.size = es.length ∧ ∀ (i : Nat) (e : NK × Addr × V), es[i]? = some e → ∃ en : DictEntry, ar[i]? = some en ∧ en.key = .ref e.2.1 ∧ RelV e.2.2 en.val := by
  obtain ⟨xs, ar, ep, r, hx, hd, he, hn⟩ := D.obj
  refine ⟨ar, ep, hx, hd, ?_, fun i e h => ?_⟩
  · rw [← Array.length_toList, he, List.length_map, pLen r]
  · have hq : ∃ q : NK × Addr × Value, xs[i]? = some q ∧ e.1 = q.1 ∧ e.2.1 = q.2.1 ∧ RelV e.2.2 q.2.2 := by
      clear hn he D
      induction r generalizing i with
      | nil => cases h
      | @cons p q ps qs hh t ih =>
        cases i with
        | zero =>
          cases h
          exact ⟨q, rfl, hh⟩
        | succ i => exact ih i (by simpa using h)
    obtain ⟨q, h1, h2, h3, h4⟩ := hq
    exact ⟨entryOfKey (nestedKind P w) q, by rw [← Array.getElem?_toList, he, List.getElem?_map, h1]; rfl, by rw [h3]; rfl, h4⟩
section
variable {P : Program} {w : World} {K : PySem.W.Frag} {tg : Expr} {d : Addr} {o : Obj} {es : List (NK × Addr × V)} {ar : Array DictEntry} {ep : Nat}
theorem turnX (it : Addr) (hod : o.data = .dict ar ep) (hsz : ar.size = es.length) (ent : ∀ (i : Nat) (e : NK × Addr × V), es[i]? = some e → ∃ en : DictEntry, ar[i]? = some en ∧ en.key = .ref e.2.1 ∧ RelV e.2.2 en.val) :
    Turn P w K tg (ItX d o es) [it] it (fun i h => h.IsKeyIter it d i es.length ep) where
  mem := by simp
  obj := fun i h st b hb => by
    have e : b = it := by simpa using hb
    subst e
    obtain ⟨oi, e, c, dd⟩ := st
    exact ⟨oi, e, fun v z => by rw [dd] at z; cases z⟩
  keep := fun i h h' st k => st.at fun oi e => k it (by simp) oi e
  item := by
    intro X hP hw hK hc i pins s σ H E I hf st hg
    subst hP hw hK
    obtain ⟨hd, hi⟩ := hg
    obtain ⟨f0, f1, f2, f3, f4, f5⟩ := hf it (by simp)
    have hgd := rawAt I hd
    obtain ⟨en, hen, hkey, _⟩ := ent i es[i] (List.getElem?_eq_getElem hi)
    refine next_key_item st hgd hod hsz hen fun h' st' sb => ?_
    have I1 : Inv X pins σ H { s with heap := h' } := I.turned (t' := s.toks) (fun b ob hb e => (sb.2 b hb).trans e) f0 f1 f3 f4 f5
    obtain ⟨oi, e, c, dd⟩ := id st'
    exact ⟨en.key, rfl, go_of (s := { s with heap := h' }) e c dd (by decide) ⟨.ref es[i].2.1, H, I1, hkey, ⟨rfl, es[i], List.getElem?_eq_getElem hi, rfl⟩, st', fun b hb => (hf b hb).1⟩⟩
  done := by
    intro X hP hw hK hc i pins s σ H E I hf st hg
    subst hP hw hK
    obtain ⟨hd, hi⟩ := hg
    obtain ⟨f0, f1, f2, f3, f4, f5⟩ := hf it (by simp)
    exact next_key_end (I.ok.hd hc) st (rawAt I hd) hod hsz hi fun h' eb => ⟨rfl, I.turned (t' := s.toks) (fun b ob hb e => eb b ob hb e) f0 f1 f3 f4 f5⟩
  self := fun A i s Q E st h => by
    refine wpAny_pyIter_slot st.typeIs F.slot_dict_keyiterator_iter (wpAny_call_entry F.slot_dict_keyiterator_iter st.typeIs F.entry_dict_keyiterator_iter ?_ (F.args_dict_keyiterator_iter_1 _))
    show wpAny _ _ (ret (.ref it)) _ _ s
    exact wpAny_pure ⟨_, rfl, "dict_keyiterator", _, st.typeIs, F.slot_dict_keyiterator_next.lookup, h⟩
theorem turnXi {elts : List Expr} {kk : Nat} {tpos : Pos} (it : Addr) (hx : o.ExactDict) (hod : o.data = .dict ar ep) (hsz : ar.size = es.length) (ent : ∀ (i : Nat) (e : NK × Addr × V), es[i]? = some e → ∃ en : DictEntry, ar[i]? = some en ∧ en.key = .ref e.2.1 ∧ RelV e.2.2 en.val) :
    Turn P w K (.Tuple elts kk tpos) (ItXi d o es) [it] it (fun i h => ∃ ok ov, IsItemIter h it d i ar.size ep ok ov) where
  mem := by simp
  obj := fun i h st b hb => by
    have e : b = it := by simpa using hb
    subst e
    obtain ⟨ok, ov, e⟩ := st
    exact ⟨_, e, fun v z => nomatch z⟩
  keep := fun i h h' st k => let ⟨ok, ov, e⟩ := st; ⟨ok, ov, k it (by simp) _ e⟩
  item := by
    intro X hP hw hK hc i pins s σ H E I hf st hg
    subst hP hw hK
    obtain ⟨hd, hi⟩ := hg
    obtain ⟨en, hen, hkey, hval⟩ := ent i es[i] (List.getElem?_eq_getElem hi)
    obtain ⟨hi2, hen2⟩ := Array.getElem?_eq_some_iff.mp hen
    obtain ⟨ok, ov, he⟩ := st
    have hlt : it < s.heap.objs.size := Heap.lt_size he
    refine DT.nextI he ⟨o, rawAt I hd, hx, hod⟩ hi2 fun h' ho hT hz hk => ?_
    rw [hen2] at ho hT
    rw [hkey] at hT
    refine ⟨_, rfl, wpAny_letOwnedTupleGo_items (s := { s with heap := h' }) ho fun h'' he' sb => ?_⟩
    have hT2 : h''.get? s.heap.objs.size = some { cls := .type "tuple", data := .seq #[.ref es[i].2.1, en.val] } := (sb.2 _ (Nat.ne_of_gt hlt)).trans hT
    have new : ObjOk X.prog X.w (upd H s.heap.objs.size (.tup [.ref es[i].2.1, es[i].2.2])) h'' s.heap.objs.size (.tup [.ref es[i].2.1, es[i].2.2]) :=
      ⟨by show 2 ≤ sizeLine; decide, [.ref es[i].2.1, en.val], .cons rfl (.cons hval .nil), ⟨_, hT2, rfl, _, rfl⟩⟩
    have I1 : Inv X pins σ (upd H s.heap.objs.size (.tup [.ref es[i].2.1, es[i].2.2])) { s with heap := h'' } :=
      I.turnedNew (t' := s.toks) (ch := [it]) (fun b ob hb e => (sb.2 b (by simpa using hb)).trans (hk b ob (by simpa using hb) e)) hf (Nat.le_refl _) new
    refine ⟨.ref s.heap.objs.size, _, I1, rfl, ⟨_, es[i], List.getElem?_eq_getElem hi, rfl, I.hok.fresh (Nat.le_refl _), rfl⟩, ⟨_, _, he'⟩, fun b hb => ?_⟩
    have e : b = it := by simpa using hb
    rw [e, upd_ne (Nat.ne_of_lt hlt)]
    exact (hf it (by simp)).1
  done := by
    intro X hP hw hK hc i pins s σ H E I hf st hg
    subst hP hw hK
    obtain ⟨hd, hi⟩ := hg
    obtain ⟨f0, f1, f2, f3, f4, f5⟩ := hf it (by simp)
    obtain ⟨ok, ov, he⟩ := st
    exact DT.endI (I.ok.hd hc) he ⟨o, rawAt I hd, hx, hod⟩ (by rw [hsz]; exact hi) fun h' eb => ⟨rfl, I.turned (t' := s.toks) (fun b ob hb e => eb b ob hb e) f0 f1 f3 f4 f5⟩
  self := fun A i s Q E st h => let ⟨_, _, e⟩ := st; PySem.W.kcp_self e h
end
def iX (P : Program) (w : World) (td : TE) : TI := fun σ H R => td σ H fun x H1 => ∃ d o es, x = .ref d ∧ H1 d = some (RawO d o) ∧ DF P w d o es ∧ R (ItX d o es) H1
def iXi (P : Program) (w : World) (td : TE) : TI := fun σ H R => td σ H fun x H1 => ∃ d o es, x = .ref d ∧ H1 d = some (RawO d o) ∧ DF P w d o es ∧ R (ItXi d o es) H1
section
variable {X : Cx} {tg e : Expr} {td : TE} {apos cpos : Pos}
theorem pi_X (he : PE X e td) : PI X tg e (iX X.prog X.w td) := by
  refine ⟨fun pins s σ H R I h => ?_⟩
  refine thn (he.run pins s σ H _ I h) fun u s1 ⟨x, H1, I1, rx, d, o, es, ex, hd, D, q⟩ => ?_
  subst ex
  obtain rfl : u = Value.ref d := rx
  obtain ⟨ar, ep, hx, hod, hsz, ent⟩ := D.ents
  refine iter_keys D.sys (rawAt I1 hd) hx hod (pi_one (tk := s1.toks) I1 _ (turnX _ hod hsz ent) ⟨_, Heap.get?_push_size _ rfl, rfl, ?_⟩ q)
  rw [hsz]
  rfl
theorem pi_Xi {elts : List Expr} {kk : Nat} {tpos : Pos} (he : PE X e td) (hbase : attributeBase e "items" X.env (eval e X.env) = eval e X.env := by rfl) (hline : (apos.endLine == cpos.line) = true := by rfl) :
    PI X (.Tuple elts kk tpos) (.Call (.Attribute e "items" apos) [] [] cpos) (iXi X.prog X.w td) := by
  refine ⟨fun pins s σ H R I h => ?_⟩
  refine wpAny_Call_method (T := "dict") (id := "dict.items") hbase rfl hline F.plainAttrs_dict F.slot_dict_items F.type_dict_items (thn (he.run pins s σ H _ I h) fun u s1 ⟨x, H1, I1, rx, d, o, es, ex, hd, D, q⟩ => ?_)
  subst ex
  obtain rfl : u = Value.ref d := rx
  obtain ⟨ar, ep, hx, hod, hsz, ent⟩ := D.ents
  have hgd := rawAt I1 hd
  have hT : s1.TypeIs (.ref d) "dict" := ⟨o, hgd, hx.1⟩
  refine ⟨hT, fun b e => by cases e; exact ⟨o, hgd, hx.2.1⟩, ?_⟩
  have I2 : Inv X pins σ H1 { s1 with heap := s1.heap.push { cls := .type "dict_items", data := .fields #[.ref d] } } := I1.kept (t' := s1.toks) fun b ob q => Heap.get?_push_of_some _ q
  have fin : wpAny (model X.prog X.w) X.A (pyIter (.ref s1.heap.objs.size)) (PIE X pins σ (.Tuple elts kk tpos) R) X.xe { s1 with heap := s1.heap.push { cls := .type "dict_items", data := .fields #[.ref d] } } := by
    refine DT.iterI (d := d) (es := ar) (ep := ep) ⟨_, Heap.get?_push_size _ rfl, rfl, rfl⟩ ⟨o, Heap.get?_push_of_some _ hgd, hx, hod⟩ (pi_one (tk := s1.toks) I2 _ (turnXi _ hx hod hsz ent) ⟨.none, .none, ?_⟩ q)
    exact Heap.get?_push_size _ rfl
  show wpAny _ _ (callWith cpos (.builtin "dict.items") [.ref d] [] []) _ X.xe s1
  exact method_meetsIn F.slot_dict_items F.entry_dict_items rfl (PySem.evalArgs_none ⟨rfl, hT, F.args_dict_items_1 _, _, DT.meetsItems (es := ar) (ep := ep) D.sys, ⟨o, hgd, hx, hod⟩, fin⟩)
/-- list(d) -/
theorem callListX (hc : X.calm = true) : CallR X (.type "list") (fun xs H Q => ∃ d o es, xs = [V.ref d] ∧ H d = some (RawO d o) ∧ DF X.prog X.w d o es ∧ ∀ p, H p = none → Q (.ref p) (upd H p (.lst (es.map fun e => V.ref e.2.1)))) := by
  intro pins s σ H xs us Q I r h
  obtain ⟨d, o, es, rfl, hd, D, q⟩ := h
  obtain ⟨u, rfl, rx⟩ := r.one
  cases rx
  obtain ⟨ar, ep, hx, hod, hsz, ent⟩ := D.ents
  have z := D.z
  refine PySem.W.kdl_call (kdl_raw D.sys hx hod) (I.ok.hd hc) (rawAt I hd) (by omega) fun h' tk acc' c' kp e it => ?_
  have ea : acc'.toList = es.map fun x => Value.ref x.2.1 := by
    have hl : acc'.toList.length = es.length := by rw [Array.length_toList, it.1]; exact hsz
    apply List.ext_getElem?
    intro j
    rw [List.getElem?_map]
    cases hj : acc'.toList[j]? with
    | none =>
      have h1 := List.getElem?_eq_none_iff.mp hj
      rw [List.getElem?_eq_none (by omega)]
      all_goals rfl
    | some v =>
      obtain ⟨en, hen, hv⟩ := it.2 j v (by rw [← Array.getElem?_toList]; exact hj)
      have hjl : j < es.length := by
        have := (List.getElem?_eq_some_iff.mp hj).1
        omega
      obtain ⟨en', h1, h2, _⟩ := ent j es[j] (List.getElem?_eq_getElem hjl)
      rw [h1] at hen
      cases hen
      rw [List.getElem?_eq_getElem hjl, hv, h2]
      rfl
  have eb : acc'.toList = (es.map fun x => x.2.1).map Value.ref := by rw [ea, List.map_map]; all_goals rfl
  have ec : (es.map fun e => V.ref e.2.1) = (es.map fun x => x.2.1).map V.ref := by rw [List.map_map]; rfl
  have rv : Vals (es.map fun e => V.ref e.2.1) acc'.toList := by rw [eb, ec]; exact vals_refs _
  have hz : (es.map fun e => V.ref e.2.1).length ≤ sizeLine := by rw [List.length_map]; exact z
  refine ⟨.ref s.heap.objs.size, _, I.laid (t' := tk) (o := .lst (es.map fun e => V.ref e.2.1)) kp (Nat.le_refl _) ?_, rfl, q _ (I.hok.fresh (Nat.le_refl _))⟩
  exact ⟨hz, acc'.toList, c', rv, by rw [Array.toArray_toList]; exact e⟩
/-- len(d) -/
theorem callLenX : CallR X (.builtin "len") (fun xs H Q => ∃ d o es, xs = [V.ref d] ∧ DAt X.prog X.w H d o es ∧ Q (.int es.length) H) := by
  intro pins s σ H xs us Q I r h
  obtain ⟨d, o, es, rfl, D, q⟩ := h
  obtain ⟨u, rfl, rx⟩ := r.one
  cases rx
  obtain ⟨xs, rel, dd⟩ := D.is I
  have hl := pLen rel
  refine call_len_dictH D.df.sys dd (by have := D.df.z; rw [sizeLine_eq] at this; omega) ?_
  rw [← hl]
  exact ⟨.int es.length, H, I.tok _, ⟨_, rfl⟩, q⟩
/-- dict(l), a list of pairs, the keys unlike -/
theorem storedAllNew {ps : List (NK × Addr × Value)} : ∀ {acc : List (NK × Addr × Value)}, ((acc ++ ps).map (·.1)).Nodup → storedAllH acc ps = acc ++ ps := by
  induction ps with
  | nil =>
    intro acc _
    rw [List.append_nil]
    rfl
  | cons p ps ih =>
    intro acc n
    have n1 : atKey acc p.1 = none := by
      unfold atKey
      rw [Option.map_eq_none_iff, List.find?_eq_none]
      intro x hx e
      have e' : x.1 = p.1 := of_decide_eq_true e
      rw [List.map_append, List.map_cons] at n
      exact (List.nodup_append.mp n).2.2 x.1 (List.mem_map.mpr ⟨x, hx, rfl⟩) p.1 List.mem_cons_self e'
    show storedAllH (storedH acc p.1 p.2.1 p.2.2) ps = _
    rw [storedH_new n1, ih (by rw [List.append_assoc]; exact n), List.append_assoc]
    rfl
theorem callDictX {k : Nat} (hr : Room k X.A) (hc : X.calm = true) : CallR X (.type "dict") (fun xs H Q => ∃ (a : Addr) (ts : List Addr) (es : List (NK × Addr × V)), xs = [.ref a] ∧ H a = some (.lst (ts.map V.ref)) ∧ Paired (fun t e => Rd H t (.tup [.ref e.2.1, e.2.2])) ts es ∧
    (∀ e ∈ es, KeyAt H e.1 e.2.1) ∧ (es.map (·.1)).Nodup ∧ ∀ p o, H p = none → DF X.prog X.w p o es → Q (.ref p) (upd H p (RawO p o))) := by
  intro pins s σ H xs us Q I r h
  obtain ⟨a, ts, es, rfl, ha, hp, hk, hn, q⟩ := h
  obtain ⟨u, rfl, rx⟩ := r.one
  cases rx
  obtain ⟨its, rv, pl, hz⟩ := I.list (SqL.of (K := X.K) ha)
  have ei := refs_at rv
  subst ei
  have ps : ∃ ps : List (NK × Addr × Value), KX es ps ∧ ps.length = ts.length ∧ ∀ (j : Nat) (q : NK × Addr × Value), ps[j]? = some q → ∃ t, ts[j]? = some t ∧ IsTup s.heap t #[.ref q.2.1, q.2.2] := by
    clear ha hz pl rv hk hn q
    induction hp with
    | nil => exact ⟨[], .nil, rfl, fun j q e => by simp at e⟩
    | @cons t e ts es h t' ih =>
      obtain ⟨ps, r1, l1, f1⟩ := ih
      obtain ⟨its, rv, ht, _⟩ := I.tuple (.inl h)
      obtain ⟨u, y, ei, ru, ry⟩ := vals2 rv
      subst ei
      cases ru
      refine ⟨(e.1, e.2.1, y) :: ps, .cons ⟨rfl, rfl, ry⟩ r1, by rw [List.length_cons, List.length_cons, l1], fun j q' e' => ?_⟩
      cases j with
      | zero =>
        cases e'
        exact ⟨t, rfl, ht⟩
      | succ j =>
        obtain ⟨t2, e1, e2⟩ := f1 j q' (by simpa using e')
        exact ⟨t2, by simpa using e1, e2⟩
  obtain ⟨ps, rel, hl, fp⟩ := ps
  let vs : List (Value × Value) := ps.map fun x => (Value.ref x.2.1, x.2.2)
  have hvl : vs.length = ps.length := List.length_map _
  let Ts : Nat → Addr := fun j => ts.getD j 0
  have items : PairItems s.heap (ts.map Value.ref).toArray Ts vs := by
    refine ⟨by simp [vs, hl], fun j k v hj => ?_⟩
    rw [List.getElem?_map] at hj
    obtain ⟨x, hx, ex⟩ := Option.map_eq_some_iff.mp hj
    cases ex
    obtain ⟨t, h1, h2⟩ := fp j x hx
    have e1 : Ts j = t := by
      show ts.getD j 0 = t
      rw [List.getD_eq_getElem?_getD, h1]
      rfl
    refine ⟨by simp [h1, e1], .inl ?_⟩
    rw [e1]
    exact h2
  obtain ⟨oa, n, hoa, hca, hda, hdat⟩ := pl
  have z : es.length ≤ sizeLine := by
    rw [pLen rel, hl]
    simpa using hz
  refine call_dict_pairsH (knd := nestedKind X.prog X.w) (ps := ps) (PairArg.list a (ts.map Value.ref).toArray Ts vs) (I.ok.hd hc) (roomX2 hr) ⟨⟨oa, n, hoa, hca, hda, hdat⟩, items⟩ ⟨hvl.symm, fun i key v hR => ?_⟩ ?_ (by rw [hvl, ← pLen rel]; exact z) fun h' tk d' hk' => ?_
  · have hR' : vs[i]? = some (key, v) := hR
    rw [List.getElem?_map] at hR'
    obtain ⟨x, hx, ex⟩ := Option.map_eq_some_iff.mp hR'
    cases ex
    exact ⟨x.1, x.2.1, hx, rfl⟩
  · intro h' kp x hx
    have kk := kxKeys rel (Q := fun k b => (nestedKind X.prog X.w).is s.heap k b) (fun e he => hk e he X pins σ s I) x hx
    exact nestedKind_stays.stays (fun b o vs n e q => kp b o (Nat.ne_of_lt (Heap.lt_size e)) (fun z => nomatch z) e) kk
  · have hsys : (s.heap.objs.size == sysModules) = false := beq_eq_false_iff_ne.mpr (Ne.symm (Nat.ne_of_lt I.big))
    have hn' : (ps.map (·.1)).Nodup := by
      have e : ps.map (·.1) = es.map (·.1) := by
        have : ∀ {es : List (NK × Addr × V)} {ps : List (NK × Addr × Value)}, KX es ps → ps.map (·.1) = es.map (·.1) := by
          intro es ps r
          unfold KX at r
          induction r with
          | nil => rfl
          | cons h t ih => rw [List.map_cons, List.map_cons, ih, h.1]
        exact this rel
      rw [e]
      exact hn
    rw [storedAllNew (acc := []) (by simpa using hn'), List.nil_append] at d'
    obtain ⟨o', e', f'⟩ := dfOf (P := X.prog) (w := X.w) rel z hsys d'
    exact ⟨.ref s.heap.objs.size, _, I.laid (t' := tk) (fun b ob e => hk' b ob (fun z => nomatch z) e) (Nat.le_refl _) (rawOk e'), rfl, q _ o' (I.hok.fresh (Nat.le_refl _)) f'⟩
end
end Wk
set_option Elab.async false
set_option linter.all false
set_option maxRecDepth 100000
set_option maxHeartbeats 4000000
/-! Dicts with tuple keys by what they stand for. -/
namespace Wk
open PySem PySem.Spec PyProof.Rows L2

abbrev State := Nat × Option Nat
def lastV : Option Nat → V
  | none => .non
  | some s => .int (s : Int)
def lastK : Option Nat → NK
  | none => .none
  | some s => .num (s : Int)
def RSt : Rp State := fun d v H => ∃ a, v = .ref a ∧ Rd H a (.tup [.int (d.1 : Int), lastV d.2])
instance : Im RSt := ⟨fun e ⟨a, h1, h2⟩ => ⟨a, h1, e _ _ h2⟩⟩
def encSt (d : State) : NK := .tup [.num (d.1 : Int), lastK d.2]
def encRow (ns : List Int) : NK := .tup (ns.map .num)
structure KOk {κ : Type} (enc : κ → NK) (KR : Rp κ) : Prop where
  inj : ∀ {a b : κ}, enc a = enc b → a = b
  ref : ∀ {k : κ} {v : V} {H : Hp}, KR k v H → ∃ b, v = .ref b
  key : ∀ {k : κ} {b : Addr} {H : Hp}, KR k (.ref b) H → KeyAt H (enc k) b
theorem keyOf {H : Hp} {a : Addr} {xs : List V} {ks : List NK} (h : Rd H a (.tup xs)) (hd : NestedKey.depth (.tup ks) ≤ 8) (hk : ∀ (hp : Heap) (us : List Value), Vals xs us → NestedAll hp ks us) : KeyAt H (.tup ks) a := fun X pins σ s I => by
  obtain ⟨its, rv, p, _⟩ := I.tuple (.inl h)
  obtain ⟨o, ho, hc, n, hd'⟩ := p
  exact ⟨.tup ho hc hd' (by simpa using hk s.heap its rv), hd⟩
theorem kSt : KOk encSt RSt := ⟨fun {a b} e => by
    have e2 : [NestedKey.num (a.1 : Int), lastK a.2] = [NestedKey.num (b.1 : Int), lastK b.2] := NestedKey.tup.inj e
    have e3 := List.cons.inj e2
    have e4 : a.1 = b.1 := Int.ofNat.inj (NestedKey.num.inj e3.1)
    have e5 : lastK a.2 = lastK b.2 := (List.cons.inj e3.2).1
    have e6 : a.2 = b.2 := by
      cases h1 : a.2 with
      | none =>
        cases h2 : b.2 with
        | none => rfl
        | some y =>
          rw [h1, h2] at e5
          cases e5
      | some x =>
        cases h2 : b.2 with
        | none =>
          rw [h1, h2] at e5
          cases e5
        | some y =>
          rw [h1, h2] at e5
          rw [Int.ofNat.inj (NestedKey.num.inj e5)]
    exact Prod.ext e4 e6, fun ⟨a, h, _⟩ => ⟨a, h⟩, fun {k b H} ⟨a, h1, h2⟩ => by
    cases h1
    refine keyOf h2 ?_ fun hp us rv => ?_
    · cases h : k.2 <;> simp [lastK, NestedKey.depth, NestedKey.depthAll]
    · obtain ⟨u, y, rfl, ru, ry⟩ := vals2 rv
      obtain ⟨t, rfl⟩ := ru
      refine .cons (.int _ _) (.cons ?_ .nil)
      cases h : k.2 with
      | none =>
        rw [h] at ry
        have e : y = Value.none := ry
        rw [e]
        exact .none
      | some z =>
        rw [h] at ry
        obtain ⟨t2, rfl⟩ := ry
        exact .int _ _⟩
theorem depNums : ∀ ns : List Int, NestedKey.depthAll (ns.map NestedKey.num) = 0
  | [] => by simp [NestedKey.depthAll]
  | n :: ns => by simp [NestedKey.depthAll, NestedKey.depth, depNums ns]
theorem kRow : KOk encRow (Tu RI) := ⟨fun {a b} e => by
    have e2 : a.map NestedKey.num = b.map NestedKey.num := NestedKey.tup.inj e
    exact List.map_inj_right (fun _ _ h => NestedKey.num.inj h) |>.mp e2, fun ⟨a, _, h, _⟩ => ⟨a, h⟩, fun {k b H} h => by
    obtain ⟨a, h1, h2⟩ := tuI.mp h
    cases h1
    refine keyOf h2 (by simp [NestedKey.depth, depNums]) fun hp us rv => ?_
    clear h2 h
    induction k generalizing us with
    | nil =>
      cases rv
      exact .nil
    | cons n ns ih =>
      cases rv with
      | cons r t =>
        obtain ⟨tk, rfl⟩ := r
        exact .cons (.int _ _) (ih _ t)⟩
def Dx {κ β : Type} (P : Program) (w : World) (enc : κ → NK) (KR : Rp κ) (S : Rp β) : Rp (List (κ × β)) := fun ds v H => ∃ (a : Addr) (o : Obj) (es : List (NK × Addr × V)), v = .ref a ∧ H a = some (RawO a o) ∧ DF P w a o es ∧ Paired (fun e d => e.1 = enc d.1 ∧ KR d.1 (.ref e.2.1) H ∧ S d.2 e.2.2 H) es ds
section
variable {κ β : Type} [DecidableEq κ] {P : Program} {w : World} {enc : κ → NK} {KR : Rp κ} {S : Rp β} {H : Hp}
instance [m : MoR KR] [n : MoR S] : MoR (Dx P w enc KR S) := ⟨fun e ⟨a, o, es, h1, h2, h3, h4⟩ => ⟨a, o, es, h1, e _ _ h2, h3, pImp (fun _ _ ⟨p, q, r⟩ => ⟨p, m.mo e q, n.mo e r⟩) h4⟩⟩
def lkx (ds : List (κ × β)) (k : κ) : Option β := (ds.find? fun d => decide (d.1 = k)).map (·.2)
def setD (k : κ) (b : β) (d : κ × β) : κ × β := if d.1 = k then (d.1, b) else d
def putx (ds : List (κ × β)) (k : κ) (b : β) : List (κ × β) := if (lkx ds k).isSome = true then ds.map (setD k b) else ds ++ [(k, b)]
theorem lkxCons {d : κ × β} {ds : List (κ × β)} {k : κ} : lkx (d :: ds) k = if d.1 = k then some d.2 else lkx ds k := by
  unfold lkx
  rw [List.find?_cons]
  by_cases h : d.1 = k
  · rw [decide_eq_true h, if_pos h]
    rfl
  · rw [decide_eq_false h, if_neg h]
abbrev EX (enc : κ → NK) (KR : Rp κ) (S : Rp β) (H : Hp) : List (NK × Addr × V) → List (κ × β) → Prop := Paired fun e d => e.1 = enc d.1 ∧ KR d.1 (.ref e.2.1) H ∧ S d.2 e.2.2 H
theorem exNone (K : KOk enc KR) {es : List (NK × Addr × V)} {ds : List (κ × β)} (h : EX enc KR S H es ds) {k : κ} (hk : lkx ds k = none) : atX es (enc k) = none := by
  unfold EX at h
  induction h with
  | nil => rfl
  | @cons p d ps ds r t ih =>
    rw [lkxCons] at hk
    by_cases e : d.1 = k
    · rw [if_pos e] at hk
      cases hk
    · rw [if_neg e] at hk
      rw [atXCons, if_neg (fun z => e (K.inj (r.1.symm.trans z)))]
      exact ih hk
theorem exSome (K : KOk enc KR) {es : List (NK × Addr × V)} {ds : List (κ × β)} (h : EX enc KR S H es ds) {k : κ} {b : β} (hk : lkx ds k = some b) : ∃ v, atX es (enc k) = some v ∧ S b v H := by
  unfold EX at h
  induction h with
  | nil => cases hk
  | @cons p d ps ds r t ih =>
    rw [lkxCons] at hk
    by_cases e : d.1 = k
    · rw [if_pos e] at hk
      cases hk
      exact ⟨p.2.2, by rw [atXCons, if_pos (r.1.trans (by rw [e]))], r.2.2⟩
    · rw [if_neg e] at hk
      rw [atXCons, if_neg (fun z => e (K.inj (r.1.symm.trans z)))]
      exact ih hk
theorem exIs (K : KOk enc KR) {es : List (NK × Addr × V)} {ds : List (κ × β)} (h : EX enc KR S H es ds) (k : κ) : (atX es (enc k)).isSome = (lkx ds k).isSome := by
  cases e : lkx ds k with
  | none => rw [exNone K h e]
            rfl
  | some b =>
    obtain ⟨v, h1, _⟩ := exSome K h e
    rw [h1]
    rfl
theorem exKeys (K : KOk enc KR) {es : List (NK × Addr × V)} {ds : List (κ × β)} (h : EX enc KR S H es ds) : ∀ e ∈ es, KeyAt H e.1 e.2.1 := by
  unfold EX at h
  induction h with
  | nil => exact fun e he => nomatch he
  | @cons p d ps ds r t ih =>
    intro e he
    rcases List.mem_cons.mp he with z | z
    · rw [z, r.1]
      exact K.key r.2.1
    · exact ih e z
theorem exSet (K : KOk enc KR) {es : List (NK × Addr × V)} {ds : List (κ × β)} (h : EX enc KR S H es ds) {k : κ} {v : V} {d : β} (hv : S d v H) : EX enc KR S H (es.map (setX (enc k) v)) (ds.map (setD k d)) := by
  unfold EX at h
  induction h with
  | nil => exact .nil
  | @cons p q ps qs r t ih =>
    refine .cons ?_ ih
    unfold setX setD
    by_cases e : q.1 = k
    · rw [if_pos e, if_pos (r.1.trans (by rw [e]))]
      exact ⟨r.1, r.2.1, hv⟩
    · rw [if_neg e, if_neg (fun z => e (K.inj (r.1.symm.trans z)))]
      exact r
theorem exPut (K : KOk enc KR) {es : List (NK × Addr × V)} {ds : List (κ × β)} (h : EX enc KR S H es ds) {k : κ} {b : Addr} {v : V} {d : β} (hb : KR k (.ref b) H) (hv : S d v H) : EX enc KR S H (putX es (enc k) b v) (putx ds k d) := by
  unfold putX putx
  rw [exIs K h k]
  split
  · exact exSet K h hv
  · exact pApp h (.cons ⟨rfl, hb, hv⟩ .nil)
theorem exEnc {es : List (NK × Addr × V)} {ds : List (κ × β)} (h : EX enc KR S H es ds) : es.map (·.1) = (ds.map (·.1)).map enc := by
  unfold EX at h
  induction h with
  | nil => rfl
  | cons r t ih => rw [List.map_cons, List.map_cons, List.map_cons, ih, r.1]
theorem exNd (K : KOk enc KR) {ds : List (κ × β)} (n : (ds.map (·.1)).Nodup) : ((ds.map (·.1)).map enc).Nodup := by
  unfold List.Nodup at n ⊢
  rw [List.pairwise_map]
  exact n.imp fun h e => h (K.inj e)
end

section
variable {X : Cx} {a b e iter tg : Expr} {σ : L2.St} {H : Hp} {pos p apos pos' : Pos} {κ β : Type} [DecidableEq κ] {enc : κ → NK} {KR : Rp κ} {S : Rp β} {ds : List (κ × β)} {k : κ} {d : β} {v : V} {n : Nat}
theorem me_xget [MoR KR] [MoR S] (K : KOk enc KR) (hr : Room n X.A) (ha : ME X a σ H (Dx X.prog X.w enc KR S ds)) (hb : ME X b σ H (KR k)) (hd : lkx ds k = some d) (hs : NoSl b := by exact fun _ _ => rfl) : ME X (.Subscript a b pos) σ H (S d) := fun H1 x1 Q q =>
  .of (pe_xget hr pe_we pe_we hs) (ha H1 x1 _ fun v H2 x2 t => hb H2 (x1.trans x2) _ fun u H3 x3 p => by
    obtain ⟨c, o, es, rfl, h1, h2, h3⟩ := MoR.mo (R := Dx X.prog X.w enc KR S) x3 t
    obtain ⟨v, h4, h5⟩ := exSome K h3 hd
    obtain ⟨bb, rfl⟩ := K.ref p
    exact ⟨c, o, es, enc k, bb, v, rfl, rfl, ⟨h1, h2, exKeys K h3⟩, K.key p, h4, q v H3 (x2.trans x3) h5⟩)
theorem mt_xnot [m0 : MoR KR] [MoR S] (K : KOk enc KR) (hr : Room n X.A) (ha : ME X a σ H (KR k)) (hb : ME X b σ H (Dx X.prog X.w enc KR S ds)) (hm : behindInMarks .NotIn b = false := by rfl) : MT X (.Compare a [.NotIn] [b] pos) σ H (!(lkx ds k).isSome) := fun H1 x1 Q q =>
  .of (pt_cmp (h1 := hm) (pc_xnot hr pe_we pe_we)) (ha H1 x1 _ fun u H2 x2 p => hb H2 (x1.trans x2) _ fun v H3 x3 t => by
    obtain ⟨c, o, es, rfl, h1, h2, h3⟩ := t
    have p3 := m0.mo x3 p
    obtain ⟨bb, rfl⟩ := K.ref p3
    exact ⟨c, o, es, enc k, bb, rfl, rfl, ⟨h1, h2, exKeys K h3⟩, K.key p3, _, rfl, by rw [exIs K h3]; exact q H3 (x2.trans x3)⟩)
theorem mn_x0 : MN X (.Dict [] [] pos) σ H (Dx X.prog X.w enc KR S []) := fun H1 x1 Q q => .of pe_xnew fun p o hp f => q p _ hp (exNew hp) ⟨p, o, [], rfl, upd_same, f, .nil⟩
theorem tkRaw {H : Hp} {p : Addr} {o o' : Obj} (h : H p = some (RawO p o)) : Tk H (upd H p (RawO p o')) := tkUp h (fun _ q => nomatch q) fun _ _ q => nomatch q
theorem mn_x1 [m1 : Im KR] [m2 : Im S] (K : KOk enc KR) (hr : Room n X.A) (ha : ME X a σ H (KR k)) (hb : ME X b σ H (S d)) : MN X (.Dict [some a] [b] pos) σ H (Dx X.prog X.w enc KR S [(k, d)]) := fun H1 x1 Q q =>
  .of (pe_xone hr pe_we pe_we) fun p o hp f => ha _ (x1.trans (exNew hp)) _ fun u H2 x2 p2 => hb H2 (x1.trans ((exNew hp).trans x2)) _ fun v H3 x3 p3 => by
    have p2' := MoR.mo (R := KR) x3 p2
    obtain ⟨bb, rfl⟩ := K.ref p2'
    have hp3 : H3 p = some (RawO p o) := x3 _ _ (x2 _ _ upd_same)
    refine ⟨enc k, bb, rfl, hp3, K.key p2', fun o' f' => q p _ hp ?_ ⟨p, o', _, rfl, upd_same, f', .cons ⟨rfl, m1.im (tkRaw hp3) p2', m2.im (tkRaw hp3) p3⟩ .nil⟩⟩
    exact fun c u e => by
      have nc : c ≠ p := fun z => by
        subst z
        rw [hp] at e
        cases e
      rw [upd_ne nc]
      exact x3 _ _ (x2 _ _ (by rw [upd_ne nc]; exact e))
theorem me_xlen [MoR KR] [MoR S] (K : KOk enc KR) (B : Bl X.mg) (h : ME X a σ H (Dx X.prog X.w enc KR S ds)) (hg : Gl X "len" := by rfl) (hs : starEach [a] X.env = (false, eval a X.env) :: starEach [] X.env := by rfl) : ME X (.Call (.Name "len" p) [a] [] pos) σ H (Is (.int ds.length)) :=
  me_cB callLenX B.len btLen (ma_cons h ma_nil hs) (fun vs H1 x1 ps => by
    obtain ⟨x, rfl, c, o, es, rfl, h1, h2, h3⟩ := p1 ps
    exact fun Q k => ⟨c, o, es, rfl, ⟨h1, h2, exKeys K h3⟩, k _ H1 (exr H1) (by rw [pLen h3]; rfl)⟩) hg (by decide) (by decide) hs rfl
theorem pKeys {es : List (NK × Addr × V)} {ds : List (κ × β)} (h : EX enc KR S H es ds) : Paired (fun x d => KR d x H) (es.map fun e => V.ref e.2.1) (ds.map (·.1)) := by
  unfold EX at h
  induction h with
  | nil => exact .nil
  | cons r t ih => exact .cons r.2.1 ih
/-- list(d) -/
theorem mn_xlist [m1 : MoR KR] [MoR S] (B : Bl X.mg) (hc : X.calm = true) (h : ME X a σ H (Dx X.prog X.w enc KR S ds)) (hg : Gl X "list" := by rfl) (hs : starEach [a] X.env = (false, eval a X.env) :: starEach [] X.env := by rfl) : MN X (.Call (.Name "list" p) [a] [] pos) σ H (Li KR (ds.map (·.1))) := fun H1 x1 Q k =>
  .of (pe_callTy (callListX hc) hg B.list btList pa_wa (by decide) (by decide) hs rfl) (ma_cons h ma_nil hs H1 x1 _ fun vs H2 x2 ps => by
    obtain ⟨x, rfl, c, o, es, rfl, h1, h2, h3⟩ := p1 ps
    exact ⟨c, o, es, rfl, h1, h2, fun l hl => k l _ (Evl.fresh_back x2 hl) (x2.trans (exNew hl)) ⟨l, _, rfl, upd_same, pImp (fun _ _ => m1.mo (exNew hl)) (pKeys h3)⟩⟩)
/-- dict(pairs) -/
theorem mn_xdict [m1 : MoR KR] [m2 : MoR S] (K : KOk enc KR) (hr : Room n X.A) (B : Bl X.mg) (hc : X.calm = true) (h : ME X a σ H (Li (Pr KR S) ds)) (nd : (ds.map (·.1)).Nodup) (hg : Gl X "dict" := by rfl) (hs : starEach [a] X.env = (false, eval a X.env) :: starEach [] X.env := by rfl) : MN X (.Call (.Name "dict" p) [a] [] pos) σ H (Dx X.prog X.w enc KR S ds) := fun H1 x1 Q k =>
  .of (pe_callTy (callDictX hr hc) hg B.dict btDict pa_wa (by decide) (by decide) hs rfl) (ma_cons h ma_nil hs (P := Li (Pr KR S) ds) (m := ⟨fun {v H H'} x ⟨c, xs, h1, h2, h3⟩ => ⟨c, xs, h1, x _ _ h2, pImp (fun _ _ ⟨t, u, w, e1, e2, e3, e4⟩ => ⟨t, u, w, e1, rdMo x e2, m1.mo x e3, m2.mo x e4⟩) h3⟩⟩) H1 x1 _ fun vs H2 x2 ps => by
    obtain ⟨x, rfl, q, xs, rfl, h2, h3⟩ := p1 ps
    have ex : ∃ (ts : List Addr) (es : List (NK × Addr × V)), xs = ts.map V.ref ∧ Paired (fun t e => Rd H2 t (.tup [.ref e.2.1, e.2.2])) ts es ∧ EX enc KR S H2 es ds := by
      clear h2 ps nd k h
      induction h3 with
      | nil => exact ⟨[], [], rfl, .nil, .nil⟩
      | @cons v d vs ds r t ih =>
        obtain ⟨ts, es, e1, e2, e3⟩ := ih
        obtain ⟨T, u, w, rfl, e4, e5, e6⟩ := r
        obtain ⟨bb, rfl⟩ := K.ref e5
        exact ⟨T :: ts, (enc d.1, bb, w) :: es, by rw [e1]; rfl, .cons e4 e2, .cons ⟨rfl, e5, e6⟩ e3⟩
    obtain ⟨ts, es, rfl, e2, e3⟩ := ex
    exact ⟨q, ts, es, rfl, h2, e2, exKeys K e3, by rw [exEnc e3]; exact exNd K nd, fun p o hp f => k p _ (Evl.fresh_back x2 hp) (x2.trans (exNew hp)) ⟨p, o, es, rfl, upd_same, f, pImp (fun _ _ ⟨z1, z2, z3⟩ => ⟨z1, m1.mo (exNew hp) z2, m2.mo (exNew hp) z3⟩) e3⟩⟩)
theorem exAt {es : List (NK × Addr × V)} {ds : List (κ × β)} (h : EX enc KR S H es ds) {i : Nat} {d : κ × β} (hd : ds[i]? = some d) : ∃ e, es[i]? = some e ∧ e.1 = enc d.1 ∧ KR d.1 (.ref e.2.1) H ∧ S d.2 e.2.2 H := pAt h hd
/-- for k in d, d standing -/
theorem mi_xkeys [m1 : MoR KR] (h : ME X iter σ H (Is v)) (ht : Dx X.prog X.w enc KR S ds v H) : MI X tg iter σ H (ds.map (·.1)).length (At KR (ds.map (·.1))) := fun H1 x1 Q q => by
  obtain ⟨a, o, es, rfl, ha, hf, hp⟩ := ht
  refine .of (pi_X pe_we) (h H1 x1 _ fun u H2 x2 p => ?_)
  have e : u = V.ref a := p
  rw [e]
  refine ⟨a, o, es, rfl, (x1.trans x2) _ _ ha, hf, q _ H2 (Ex H) x2 (x1.trans x2) holdsBase ⟨fun i H3 g hi => ?_, fun i H3 x H' g hi y => ?_, fun i H3 g hi => ?_⟩⟩
  · rw [List.length_map] at hi
    exact ⟨g _ _ ha, by rw [pLen hp]; exact hi⟩
  · obtain ⟨e1, en, y1, y2⟩ := y
    subst e1
    rw [List.length_map] at hi
    obtain ⟨e', h1, h2, h3, h4⟩ := exAt hp (List.getElem?_eq_getElem hi)
    rw [h1] at y1
    cases y1
    rw [y2]
    exact ⟨exr _, ds[i].1, by rw [List.getElem?_map, List.getElem?_eq_getElem hi]; rfl, m1.mo g h3⟩
  · rw [List.length_map] at hi
    exact ⟨g _ _ ha, by rw [pLen hp]; exact hi⟩
/-- for k, x in d.items(), d standing -/
theorem mi_xitems [m1 : MoR KR] [m2 : MoR S] {elts : List Expr} {kk : Nat} {tpos : Pos} (h : ME X e σ H (Is v)) (ht : Dx X.prog X.w enc KR S ds v H) (hbase : attributeBase e "items" X.env (eval e X.env) = eval e X.env := by rfl) (hline : (apos.endLine == pos.line) = true := by rfl) :
    MI X (.Tuple elts kk tpos) (.Call (.Attribute e "items" apos) [] [] pos) σ H ds.length (At (Pr KR S) ds) := fun H1 x1 Q q => by
  obtain ⟨a, o, es, rfl, ha, hf, hp⟩ := ht
  refine .of (pi_Xi pe_we hbase hline) (h H1 x1 _ fun u H2 x2 p => ?_)
  have e : u = V.ref a := p
  rw [e]
  refine ⟨a, o, es, rfl, (x1.trans x2) _ _ ha, hf, q _ H2 (Ex H) x2 (x1.trans x2) holdsBase ⟨fun i H3 g hi => ?_, fun i H3 x H' g hi y => ?_, fun i H3 g hi => ?_⟩⟩
  · exact ⟨g _ _ ha, by rw [pLen hp]; exact hi⟩
  · obtain ⟨T, en, y1, y2, y3, y4⟩ := y
    obtain ⟨e', h1, h2, h3, h4⟩ := exAt hp (List.getElem?_eq_getElem hi)
    rw [h1] at y1
    cases y1
    rw [y2, y4]
    exact ⟨exNew y3, ds[i], List.getElem?_eq_getElem hi, T, _, _, rfl, .inl upd_same, m1.mo (g.trans (exNew y3)) h3, m2.mo (g.trans (exNew y3)) h4⟩
  · exact ⟨g _ _ ha, by rw [pLen hp]; exact hi⟩
/-- d[k] = x, d standing at t -/
theorem ws_xput [m1 : Im KR] [m2 : Im S] {D : Ends} {t : Addr} (K : KOk enc KR) (hr : Room n X.A) (ht : Dx X.prog X.w enc KR S ds (.ref t) H) (ho : ME X a σ H (Is (.ref t))) (hi : ME X b σ H (KR k)) (hv : ME X e σ H (S d)) (hz : ds.length ≤ 1000)
    (next : ∀ H2, ExB (· = t) H H2 → Tk H H2 → Dx X.prog X.w enc KR S (putx ds k d) (.ref t) H2 → D.nx σ H2) (hs : swapsWith e (some (.Subscript a b pos')) pos.line X.env = pure false := by rfl) : WS X (.Assign [.Subscript a b pos'] e pos) D σ H :=
  .of (ps_xput hr pe_we pe_we pe_we hs) (hv.we fun v H1 x1 p1 => ho.ex x1 fun x H2 x2 p2 => hi.ex (x1.trans x2) fun y H3 x3 p3 => by
    have e2 : x = V.ref t := p2
    have x13 := x1.trans (x2.trans x3)
    obtain ⟨t', o, es, e3, h1, h2, h3⟩ := MoR.mo (R := Dx X.prog X.w enc KR S) x13 ht
    cases e3
    obtain ⟨bb, rfl⟩ := K.ref p3
    have l := pLen h3
    refine ⟨t, o, es, enc k, bb, e2, rfl, ⟨h1, h2, exKeys K h3⟩, K.key p3, by have := small1000 hz; omega, fun o' f => next _ ((ExB.of x13).trans (ExB.up rfl)) (fun b xs r => tkRaw h1 b xs (tkEx x13 b xs r)) ⟨t, o', _, rfl, upd_same, f, ?_⟩⟩
    exact pImp (fun _ _ ⟨z1, z2, z3⟩ => ⟨z1, m1.im (tkRaw h1) z2, m2.im (tkRaw h1) z3⟩) (exPut K h3 p3 (MoR.mo (R := S) (x2.trans x3) p1)))
end
end Wk
set_option Elab.async false
set_option linter.all false
set_option maxRecDepth 100000
set_option maxHeartbeats 4000000
/-! Bits; attributes, methods. -/
namespace Wk
open PySem PySem.Spec PyProof.Rows L2

/-! ### whole numbers from 0 -/
def RN : Rp Nat := fun n v _ => v = .int (n : Int)
instance : Im RN := ⟨fun _ h => h⟩
theorem pairN : ∀ {xs : List V} {ns : List Nat} {H : Hp}, Paired (fun x d => RN d x H) xs ns ↔ xs = ns.map fun n : Nat => V.int (n : Int)
  | xs, [], H => ⟨fun h => by cases h; rfl, fun h => by cases h; exact .nil⟩
  | xs, n :: ns, H => ⟨fun h => by
      cases h with
      | cons r t =>
        have r' : _ = V.int (n : Int) := r
        rw [r', pairN.mp t]
        rfl, fun h => by
      rw [h]
      exact .cons rfl (pairN.mpr rfl)⟩
theorem liN {ns : List Nat} {v : V} {H : Hp} : Li RN ns v H ↔ ∃ a, v = .ref a ∧ H a = some (.lst (ns.map fun n : Nat => V.int (n : Int))) :=
  ⟨fun ⟨a, xs, h1, h2, h3⟩ => ⟨a, h1, by rw [h2, pairN.mp h3]⟩, fun ⟨a, h1, h2⟩ => ⟨a, _, h1, h2, pairN.mpr rfl⟩⟩
theorem notNat (a : Nat) : Builtin.bitNot (Builtin.bitNot (a : Int)) = a := by
  unfold Builtin.bitNot
  omega
theorem notNeg (a : Nat) : decide (0 ≤ Builtin.bitNot (a : Int)) = false := by
  unfold Builtin.bitNot
  exact decide_eq_false (by omega)
theorem orN (a b : Nat) : Builtin.bitOr (a : Int) (b : Int) = ((a ||| b : Nat) : Int) := by
  unfold Builtin.bitOr Builtin.bitAnd
  rw [notNeg, notNeg]
  simp only []
  rw [notNat, notNat, notNat]
  rfl
theorem andN (a b : Nat) : Builtin.bitAnd (a : Int) (b : Int) = ((a &&& b : Nat) : Int) := by
  unfold Builtin.bitAnd
  rw [decide_eq_true (by omega : (0 : Int) ≤ a), decide_eq_true (by omega : (0 : Int) ≤ b)]
  rfl
theorem andNotN (a b : Nat) : Builtin.bitAnd (a : Int) (Builtin.bitNot (b : Int)) = (a : Int) - ((a &&& b : Nat) : Int) := by
  unfold Builtin.bitAnd
  rw [decide_eq_true (by omega : (0 : Int) ≤ a), notNeg]
  simp only []
  rw [notNat]
  rfl
theorem shlN (s : Nat) : (1 : Int) * 2 ^ ((s : Nat) : Int).toNat = ((2 ^ s : Nat) : Int) := by
  rw [Int.one_mul, Int.toNat_natCast]
  push_cast
  rfl
theorem shrN (b s : Nat) : (b : Int) / 2 ^ ((s : Nat) : Int).toNat = ((b / 2 ^ s : Nat) : Int) := by
  rw [Int.toNat_natCast]
  push_cast
  rfl
theorem bitZero (b s : Nat) : decide (V.int (Builtin.bitAnd ((b : Int) / 2 ^ ((s : Nat) : Int).toNat) 1) = V.int 0) = !b.testBit s := by
  have e : ((1 : Nat) : Int) = 1 := rfl
  rw [shrN, ← e, andN, Nat.and_one_is_mod]
  have h : b.testBit s = decide (b / 2 ^ s % 2 = 1) := Nat.testBit_eq_decide_div_mod_eq
  rw [h]
  rcases Nat.mod_two_eq_zero_or_one (b / 2 ^ s) with z | z
  · rw [z]
    rfl
  · rw [z]
    rfl
theorem subZero (a b : Nat) : decide (V.int (Builtin.bitAnd (a : Int) (Builtin.bitNot (b : Int))) = V.int 0) = decide (a &&& b = a) := by
  rw [andNotN]
  by_cases h : a &&& b = a
  · rw [decide_eq_true h, h]
    exact decide_eq_true (by rw [Int.sub_self])
  · rw [decide_eq_false h]
    refine decide_eq_false fun e => h ?_
    have e' := V.int.inj e
    omega
section
variable {X : Cx} {a b : Expr} {σ : L2.St} {H : Hp} {pos : Pos} {m n : Nat}
theorem me_or' (ha : ME X a σ H (Is (.int (m : Int)))) (hb : ME X b σ H (Is (.int (n : Int)))) : ME X (.BinOp a .BitOr b pos) σ H (Is (.int ((m ||| n : Nat) : Int))) := by
  have := me_I0 (pos := pos) op_or ha hb
  rw [orN] at this
  exact this
theorem me_shl1 (ha : ME X a σ H (Is (.int 1))) (hb : ME X b σ H (Is (.int (n : Int)))) (h : n ≤ 1000) : ME X (.BinOp a .LShift b pos) σ H (Is (.int ((2 ^ n : Nat) : Int))) := by
  have := me_I (pos := pos) op_shl ha hb ⟨by omega, by omega, by decide⟩
  rw [shlN] at this
  exact this
end

/-! ### attributes -/
/-- what the class Fitting must have -/
structure FC (K : PySem.W.Frag) (C : Addr) : Prop where
  cls : Cls K C
  n1 : NoAttr K C "threads"
  n2 : NoAttr K C "ahead"
  n3 : NoAttr K C "beside"
  n4 : NoAttr K C "levels"
section
variable {X : Cx} {e o : Expr} {es : List Expr} {σ : L2.St} {H : Hp} {pos apos : Pos} {a C dx : Addr} {fs : List (Str × V)} {f m : Str} {v : V}
theorem me_fld (c : Cls X.K C) (n : NoAttr X.K C f) (h : ME X e σ H (Is (.ref a))) (hi : H a = some (.ins C dx fs)) (hl : fs.lookup f = some v) (hb : attributeBase e f X.env (eval e X.env) = eval e X.env := by rfl) : ME X (.Attribute e f pos) σ H (Is v) := fun H1 x1 Q q =>
  .of (pe_fld pe_we hb) (h H1 x1 _ fun u H2 x2 p => by
    have e' : u = .ref a := p
    exact ⟨a, C, dx, fs, v, e', (x1.trans x2) _ _ hi, c, n, hl, q v H2 x2 rfl⟩)
theorem ws_fld {D : Ends} {P : Pv} {pos' : Pos} (c : Cls X.K C) (n : NoAttr X.K C f) (h : ME X o σ H (Is (.ref a))) (hv : ME X e σ H P) [m : Mo P] (hi : H a = some (.ins C dx fs)) (hz : fs.length < 1000) (next : ∀ v H2, Ex H H2 → P v H2 → D.nx σ (upd H2 a (.ins C dx (putF f v fs))))
    (hs : swapsWith e (some (.Attribute o f pos')) pos.line X.env = pure false := by rfl) : WS X (.Assign [.Attribute o f pos'] e pos) D σ H :=
  .of (ps_fld pe_we pe_we hs) (hv.we fun v H1 x1 p => h.ex x1 fun u H2 x2 p2 => by
    have e' : u = .ref a := p2
    exact ⟨a, C, dx, fs, e', (x1.trans x2) _ _ hi, c, n, hz, next v H2 (x1.trans x2) (m.mo x2 p)⟩)
/-- a method as it stands -/
structure DfM (K : PySem.W.Frag) (C : Addr) (m q : Str) (st : Stmt) : Prop where
  ex : ∃ (f : Addr) (fd : FuncData), FunD K m q (defArgs st) (defBody st) (defScope st) [] [] f fd ∧ Meth K C m f
structure HasM (P : Program) (w : World) (K : PySem.W.Frag) (mg : Str → Option Value) (base : Heap) (CX : CXT) (C : Addr) (m : Str) (k : Nat) (ps : List Str) (sp : Sp) : Prop where
  ex : ∃ (f : Addr) (fd : FuncData), FnOk P w K mg base CX k f fd ps sp ∧ Meth K C m f ∧ Binds K fd ps []
abbrev BndM (m q : Str) (st : Stmt) (ps : List Str) : Prop := ∀ (kV doc pm : Value) (an : Option Addr) (cdv ct : Value) (us : List Value), us.length = ps.length → bindArgs (PySem.W.fnOf m q (defArgs st) (defBody st) (defScope st) .none kV doc pm an cdv ct) ⟨us, []⟩ = pure (ps.zip us)
theorem HasM.mk' {P : Program} {w : World} {K : PySem.W.Frag} {mg : Str → Option Value} {base : Heap} {q : Str} {st : Stmt} {N ps : List Str} {k : Nat} {sp : Sp} (D : DfM K C m q st) (S : FnScope N ps (defScope st)) (bn : BndM m q st ps) (len : ∀ vs H Q E, sp vs H Q E → vs.length = ps.length)
    (body : ∀ (f : Addr) (cdv : Value) (A : Around) (outer : List Env) (s : Shared) (H : Hp) (vs : List V) (Q : VK) (E : XK), Room k (A.deeper (envOfC q (defScope st) s.heap.objs.size f cdv)) → sp vs H Q E →
      WSs (cx0 P w K mg base N q st f cdv A outer s H E) (defBody st) { nx := fun _ H' => Q .non H', rt := Q } (start N vs) H) : HasM P w K mg base CX0 C m (k + 1) ps sp := by
  obtain ⟨f, fd, F, gm⟩ := D.ex
  exact ⟨f, fd, F.ok S len fun cdv A outer s H vs Q E hr h => ⟨_, PSs.nox pss_wss, body f cdv A outer s H vs Q E hr h⟩, gm, F.bindsN bn⟩
/-- a method that only adds objects, its answer new -/
theorem HasM.mkN {P : Program} {w : World} {K : PySem.W.Frag} {mg : Str → Option Value} {base : Heap} {q : Str} {st : Stmt} {N ps : List Str} {k : Nat} {δ : Type} {Ps : δ → List Pv} {ok : δ → Prop} {res : δ → Pv} (D : DfM K C m q st) (S : FnScope N ps (defScope st)) (bn : BndM m q st ps) (len : ∀ d, (Ps d).length = ps.length)
    (body : ∀ (f : Addr) (cdv : Value) (A : Around) (outer : List Env) (s : Shared) (H : Hp) (vs : List V) (Q : VK) (E : XK) (d : δ), Room k (A.deeper (envOfC q (defScope st) s.heap.objs.size f cdv)) → ok d → Paired (fun v P => P v H) vs (Ps d) → (∀ a H', H a = none → Ex H H' → res d (.ref a) H' → Q (.ref a) H') →
      WSs (cx0 P w K mg base N q st f cdv A outer s H E) (defBody st) { nx := fun _ H' => Q .non H', rt := Q } (start N vs) H) : HasM P w K mg base CX0 C m (k + 1) ps (SpN Ps ok res) :=
  .mk' D S bn (fun vs H Q E ⟨d, _, h, _⟩ => (pLen h).trans (len d)) fun f cdv A outer s H vs Q E hr ⟨d, h1, h2, h3⟩ => body f cdv A outer s H vs Q E d hr h1 h2 h3
theorem HasM.mkD {P : Program} {w : World} {K : PySem.W.Frag} {mg : Str → Option Value} {base : Heap} {q : Str} {st : Stmt} {N ps : List Str} {k : Nat} {δ : Type} {Ps : δ → List Pv} {ok : δ → Prop} {res : δ → Pv} (D : DfM K C m q st) (S : FnScope N ps (defScope st)) (bn : BndM m q st ps) (len : ∀ d, (Ps d).length = ps.length)
    (body : ∀ (f : Addr) (cdv : Value) (A : Around) (outer : List Env) (s : Shared) (H : Hp) (vs : List V) (Q : VK) (E : XK) (d : δ), Room k (A.deeper (envOfC q (defScope st) s.heap.objs.size f cdv)) → ok d → Paired (fun v P => P v H) vs (Ps d) → (∀ v H', Ex H H' → res d v H' → Q v H') →
      WSs (cx0 P w K mg base N q st f cdv A outer s H E) (defBody st) { nx := fun _ H' => Q .non H', rt := Q } (start N vs) H) : HasM P w K mg base CX0 C m (k + 1) ps (SpD Ps ok res) :=
  .mk' D S bn (fun vs H Q E ⟨d, _, h, _⟩ => (pLen h).trans (len d)) fun f cdv A outer s H vs Q E hr ⟨d, h1, h2, h3⟩ => body f cdv A outer s H vs Q E d hr h1 h2 h3
abbrev MethTree (X : Cx) (o : Expr) (m : Str) (apos : Pos) (es : List Expr) (pos : Pos) (pl : Sem Bool) : Prop := eval (.Call (.Attribute o m apos) es [] pos) X.env = (do
      let ov ← eval o X.env
      standAt apos.atName
      let (f, first) ← holding [ov] (getMethod ov m pl)
      callWith pos f first (backTo pos (starEach es X.env)) (backToKw pos (keywordEach [] X.env)))
theorem we_meth {CX : CXT} {k : Nat} {ps : List Str} {sp : Sp} {E : XK} {Q : VK} {pl : Sem Bool} (c : Cls X.K C) (F : HasM X.prog X.w X.K X.mg X.base CX C m k ps sp) (hr : Room k X.A) (hx : Passes CX X E) (ho : ME X o σ H (Is (.ref a))) (hi : H a = some (.ins C dx fs)) (hl : fs.lookup m = none)
    (ha : ∀ H1, Ex H H1 → WA X (e :: es) σ H1 fun vs H2 => sp (.ref a :: vs) H2 Q E) (hst : starEach (e :: es) X.env = (false, eval e X.env) :: starEach es X.env := by rfl) (hpl : (backTo pos (starEach es X.env)).any (·.1) = false := by rfl)
    (ht : MethTree X o m apos (e :: es) pos pl := by rfl) : WE X (.Call (.Attribute o m apos) (e :: es) [] pos) σ H Q := by
  obtain ⟨f, fd, h1, h2, h3⟩ := F.ex
  refine .of (pe_meth (pl := pl) pe_we c h2 h1 hr h3 .nil hx pa_wa hst hpl ht) (ho.we fun x H1 x1 p => ?_)
  have e' : x = .ref a := p
  refine ⟨a, dx, fs, e', x1 _ _ hi, hl, (ha H1 x1).mono fun vs H2 q => ?_⟩
  rw [List.append_nil, e']
  exact q
theorem we_meth0 {CX : CXT} {k : Nat} {ps : List Str} {sp : Sp} {E : XK} {Q : VK} {pl : Sem Bool} (c : Cls X.K C) (F : HasM X.prog X.w X.K X.mg X.base CX C m k ps sp) (hr : Room k X.A) (hx : Passes CX X E) (ho : ME X o σ H (Is (.ref a))) (hi : H a = some (.ins C dx fs)) (hl : fs.lookup m = none)
    (ha : ∀ H1, Ex H H1 → sp [.ref a] H1 Q E) (ht : MethTree X o m apos [] pos pl := by rfl) : WE X (.Call (.Attribute o m apos) [] [] pos) σ H Q := by
  obtain ⟨f, fd, h1, h2, h3⟩ := F.ex
  refine .of (pe_meth0 (pl := pl) pe_we c h2 h1 hr h3 .nil hx ht) (ho.we fun x H1 x1 p => ?_)
  have e' : x = .ref a := p
  refine ⟨a, dx, fs, e', x1 _ _ hi, hl, ?_⟩
  rw [e']
  exact ha H1 x1
/-- o.m(e, ..), a new object -/
theorem mn_methD {k : Nat} {ps : List Str} {pl : Sem Bool} {δ : Type} {Ps : δ → List Pv} {ok : δ → Prop} {res : δ → Pv} (d : δ) {P0 : Pv} [m0 : Mo P0] {Qs : List Pv} (c : Cls X.K C) (F : HasM X.prog X.w X.K X.mg X.base CX0 C m k ps (SpN Ps ok res)) (hr : Room k X.A) (hok : ok d) (ho : ME X o σ H (Is (.ref a))) (hi : H a = some (.ins C dx fs)) (hl : fs.lookup m = none)
    (h0 : P0 (.ref a) H) (ha : MA X (e :: es) σ H Qs) (hps : Ps d = P0 :: Qs := by rfl) (hst : starEach (e :: es) X.env = (false, eval e X.env) :: starEach es X.env := by rfl) (hpl : (backTo pos (starEach es X.env)).any (·.1) = false := by rfl)
    (ht : MethTree X o m apos (e :: es) pos pl := by rfl) {P' : Pv} (hP : ∀ v H2, res d v H2 → P' v H2 := by exact fun _ _ h => h) : MN X (.Call (.Attribute o m apos) (e :: es) [] pos) σ H P' := fun H1 x1 Q q =>
  we_meth (E := fun _ _ _ => False) c F hr pass0 (fun H2 x2 => ho H2 (x1.trans x2)) (x1 _ _ hi) hl (fun H2 x2 => ha H2 (x1.trans x2) _ fun vs H3 x3 ps => ⟨d, hok, by rw [hps]; exact .cons (m0.mo (x1.trans (x2.trans x3)) h0) ps, fun b H4 nb x4 r => q b H4 (Evl.fresh_back (x2.trans x3) nb) ((x2.trans x3).trans x4) (hP _ H4 r)⟩) hst hpl ht
theorem me_methD0 {k : Nat} {ps : List Str} {pl : Sem Bool} {δ : Type} {Ps : δ → List Pv} {ok : δ → Prop} {res : δ → Pv} (d : δ) {P0 : Pv} [m0 : Mo P0] (c : Cls X.K C) (F : HasM X.prog X.w X.K X.mg X.base CX0 C m k ps (SpD Ps ok res)) (hr : Room k X.A) (hok : ok d) (ho : ME X o σ H (Is (.ref a))) (hi : H a = some (.ins C dx fs)) (hl : fs.lookup m = none)
    (h0 : P0 (.ref a) H) (hps : Ps d = [P0] := by rfl) (ht : MethTree X o m apos [] pos pl := by rfl) {P' : Pv} (hP : ∀ v H2, res d v H2 → P' v H2 := by exact fun _ _ h => h) : ME X (.Call (.Attribute o m apos) [] [] pos) σ H P' := fun H1 x1 Q q =>
  we_meth0 (E := fun _ _ _ => False) c F hr pass0 (fun H2 x2 => ho H2 (x1.trans x2)) (x1 _ _ hi) hl (fun H2 x2 => ⟨d, hok, by rw [hps]; exact .cons (m0.mo (x1.trans x2) h0) .nil, fun v H4 x4 r => q v H4 (x2.trans x4) (hP _ H4 r)⟩) ht
end
end Wk
set_option Elab.async false
set_option linter.all false
set_option maxRecDepth 100000
set_option maxHeartbeats 4000000
/-! The class Fitting: what only reads. -/
namespace Wk
open PySem PySem.Spec PyProof.Rows L2
theorem MI.conv {X : Cx} {tg iter : Expr} {σ : L2.St} {H : Hp} {n n' : Nat} {Y Y' : Nat → Pv} (h : MI X tg iter σ H n Y) (e : n = n') (k : ∀ i v H, i < n' → Y i v H → Y' i v H) : MI X tg iter σ H n' Y' := fun H1 x1 R q => by
  subst e
  exact h H1 x1 R fun J H2 G x2 g hold W => q J H2 G x2 g hold ⟨W.go, fun i H3 x H' hg hi y => let ⟨a, b⟩ := W.yld i H3 x H' hg hi y; ⟨a, k i x H' hi b⟩, W.stop⟩
theorem atNat {α : Type} (ds : List α) (i : Nat) : atI ds (i : Int) = ds[i]? := by
  unfold atI ixN
  by_cases h : i < ds.length
  · have h0 : (0 : Int) ≤ (i : Int) := by omega
    have h1 : (i : Int) < (ds.length : Int) := by omega
    simp [h0, h1, h]
  · have h0 : (0 : Int) ≤ (i : Int) := by omega
    have h1 : ¬ (i : Int) < (ds.length : Int) := by omega
    rw [List.getElem?_eq_none (by omega)]
    simp [h0, h1, h]
def bitsOf (ss : List Nat) : Nat := ss.foldl (fun a s => a ||| 2 ^ s) 0
structure FD where
  th : List Int
  ah : List Nat
  be : List Nat
abbrev lstN (ns : List Nat) : HO := .lst (ns.map fun n : Nat => V.int (n : Int))
abbrev fs3 (vt : V) (pA pB : Addr) (tl : List (Str × V)) : List (Str × V) := ("threads", vt) :: ("ahead", .ref pA) :: ("beside", .ref pB) :: tl
def RF (C : Addr) : Rp FD := fun d v H => ∃ (a dx : Addr) (tl : List (Str × V)) (vt : V) (pA pB : Addr), v = .ref a ∧ H a = some (.ins C dx (fs3 vt pA pB tl)) ∧ (tl = [] ∨ ∃ u : V, tl = [(("levels" : Str), u)]) ∧ Tu RI d.th vt H ∧ H pA = some (lstN d.ah) ∧ H pB = some (lstN d.be)
instance {C : Addr} : MoR (RF C) := ⟨fun x ⟨a, dx, tl, vt, pA, pB, h1, h2, h3, h4, h5, h6⟩ => ⟨a, dx, tl, vt, pA, pB, h1, x _ _ h2, h3, MoR.mo (R := Tu RI) x h4, x _ _ h5, x _ _ h6⟩⟩
structure GoodF (d : FD) : Prop where
  len : d.th.length ≤ 60
  ah : d.ah.length = d.th.length
  be : d.be.length = d.th.length
def barred (d : FD) (st : State) : Nat := match st.2 with
  | none => st.1
  | some l => st.1 ||| d.be.getD l 0
def nexts (d : FD) (st : State) : List Nat := ((List.range d.th.length).filter fun s => !(barred d st).testBit s).filter fun s => decide (d.ah.getD s 0 &&& st.1 = d.ah.getD s 0)
def LastOk (d : FD) (st : State) : Prop := ∀ l, st.2 = some l → l < d.th.length
section
variable {P : Program} {w : World} {K : PySem.W.Frag} {mg : Str → Option Value} {base : Heap} {C : Addr}
abbrev spBits : Sp := SpD (δ := List Nat) (fun d => [Li RN d]) (fun d => ∀ s ∈ d, s ≤ 1000) fun d => Is (.int ((bitsOf d : Nat) : Int))
abbrev nBits : List Str := ["spots", "found", "spot"]
theorem scBits : FnScope nBits ["spots"] (defScope sBitsOf) := ⟨rfl, rfl, rfl, by decide +kernel, rfl, by decide +kernel, by decide +kernel⟩
theorem bitsTake (d : List Nat) (i : Nat) {s : Nat} (h : d[i]? = some s) : bitsOf (d.take (i + 1)) = bitsOf (d.take i) ||| 2 ^ s := by
  unfold bitsOf
  rw [List.take_add_one, h, List.foldl_append]
  rfl
theorem hBits (D : Df K mg "bits_of" sBitsOf) : Has P w K mg base CX0 "bits_of" 1 ["spots"] spBits :=
  .mkD D scBits (fun _ _ _ _ _ _ us hl => match us, hl with | [_], _ => rfl) (fun _ => rfl) fun f cdv A outer s H vs Q E d hr ho ha q => by
    obtain ⟨v, rfl, h1⟩ := p1 ha
    refine wss_cons (ws_set 1 scBits.nd (ME.we me_int fun z H1 x1 p => ?_))
    have p' : z = .int ((0 : Nat) : Int) := p
    subst p'
    refine wss_cons (ws_for (fun _ => False) (fun i σ H3 => ∃ g, σ = [some v, some (.int ((bitsOf (d.take i) : Nat) : Int)), g] ∧ Ex H H3) (mi_lst (R := RN) (me_var 0) h1) x1 (fun b e => e.elim) PassesOwn.never rfl
      (fun H2 x2 => ⟨none, rfl, x1.trans x2⟩) (fun i x σ H3 H4 hi ⟨g, e, b3⟩ x4 ⟨n, hn, r⟩ => ?_) fun σ H3 ⟨g, e, b3⟩ => ?_)
    · subst e
      have r' : x = .int (n : Int) := r
      subst r'
      refine wg_name 2 scBits.nd (wss_one (ws_set 1 scBits.nd (ME.we (me_or' (me_var 1) (me_shl1 me_int (me_var 2) (ho n (List.mem_of_getElem? hn)))) fun z H5 x5 p => ⟨⟨some (.int (n : Int)), ?_, b3.trans (x4.trans x5)⟩, ExB.of (x4.trans x5)⟩)))
      have p' : z = _ := p
      rw [p', bitsTake d i hn]
      rfl
    · subst e
      rw [List.take_length]
      exact wss_one (ws_ret (ME.we (me_var 1) fun u H4 x4 p => q u H4 (b3.trans x4) p))

/-! ### next_spots -/
structure DN where
  f : FD
  st : State
abbrev spNext (C : Addr) : Sp := SpN (δ := DN) (fun d => [RF C d.f, Is (.int (d.st.1 : Int)), Is (lastV d.st.2)]) (fun d => GoodF d.f ∧ LastOk d.f d.st) fun d => Li RN (nexts d.f d.st)
abbrev nNext : List Str := ["self", "bits", "last", "barred", "spots", "spot"]
theorem scNext : FnScope nNext ["self", "bits", "last"] (defScope sFittingNextSpots) := ⟨rfl, rfl, rfl, by decide +kernel, rfl, by decide +kernel, by decide +kernel⟩
theorem getD_at {l : List Nat} {i : Nat} (h : i < l.length) : l[i]? = some (l.getD i 0) := by
  rw [List.getD_eq_getElem?_getD, List.getElem?_eq_getElem h]
  rfl
theorem lastNone {o : Option Nat} : decide (lastV o = .non) = o.isNone := by
  cases o with
  | none => rfl
  | some l => rfl
theorem hNext (B : Bl mg) (c : FC K C) (D : DfM K C "next_spots" "Fitting.next_spots" sFittingNextSpots) : HasM P w K mg base CX0 C "next_spots" 1 ["self", "bits", "last"] (spNext C) :=
  .mkN D scNext (fun _ _ _ _ _ _ us hl => match us, hl with | [_, _, _], _ => rfl) (fun _ => rfl) fun f cdv A outer s H vs Q E d hr ho ha q => by
    obtain ⟨v, u, z, rfl, h1, h2, h3⟩ := p3 ha
    have h2' : u = .int (d.st.1 : Int) := h2
    have h3' : z = lastV d.st.2 := h3
    subst h2' h3'
    obtain ⟨g, lo⟩ := ho
    obtain ⟨a, dx, tl, vt, pA, pB, rfl, hi, htl, ht, hA, hB⟩ := h1
    have gl := g.len
    have ga := g.ah
    have gb := g.be
    -- barred = ..
    refine wss_cons (ws_set 3 scNext.nd (ME.we (P := Is (.int ((barred d.f d.st : Nat) : Int))) (me_if (MT.is (mt_isN (me_var 2)) lastNone) (fun e => ?_) (fun e => ?_)) fun z H1 x1 p => ?_))
    · have e' := Option.isNone_iff_eq_none.mp e
      unfold barred
      rw [e']
      exact me_var 1
    · cases e2 : d.st.2 with
      | none =>
        rw [e2] at e
        cases e
      | some l =>
        have hl := lo l e2
        unfold barred
        rw [e2]
        refine me_or' (me_var 1) ((me_ixL (R := RN) (d := d.f.be.getD l 0) (me_is (me_fld c.cls c.n3 (me_var 0) hi rfl) (liN.mpr ⟨pB, rfl, hB⟩)) (me_var 2 (v := .int (l : Int)) rfl) ?_).imp fun v H x h => h)
        rw [atNat]
        exact getD_at (by omega)
    have p' : z = .int ((barred d.f d.st : Nat) : Int) := p
    subst p'
    -- spots = ..
    have x1i := x1 _ _ hi
    have ht1 := MoR.mo (R := Tu RI) x1 ht
    refine wss_cons (ws_n1 (R := RN) (S := RN) (j := 4) (ds := List.range d.f.th.length) 5 ((mi_range B.range (me_lenT B (me_is (me_fld c.cls c.n1 (me_var 0) x1i rfl) ht1)) (by omega) (by omega)).conv (by rw [List.length_range]; omega) fun i v H hi y => ⟨i, by rw [List.length_range] at hi; rw [List.getElem?_range hi], y⟩)
      (fun s => !(barred d.f d.st).testBit s) (fun s => s) (small1000 (by rw [List.length_range]; omega)) (fun s y H3 hs x3 r => ⟨?_, fun _ => ?_⟩) (fun l H2 nl x2 hl => ?_) scNext.nd (blkOk_by (N := nNext) (sc := defScope sFittingNextSpots) (by decide +kernel)))
    · have r' : y = .int (s : Int) := r
      subst r'
      intro _ _ _ _ _
      exact (mt_eqS (me_I0 op_and (me_I op_shr (me_var 3) (me_var 5) (by omega)) me_int) me_int).is (bitZero _ _)
    · intro _ _ _ _ _
      exact me_is (me_var 5) r
    rw [mapSelf] at hl
    -- return ..
    have x12 := x1.trans x2
    refine wss_one (ws_ret (MN.we (mn_n1 (R := RN) (S := RN) 5 (mi_lst (me_var 4) hl) (fun s => decide (d.f.ah.getD s 0 &&& d.st.1 = d.f.ah.getD s 0)) (fun s => s) (small1000 (Nat.le_trans (List.length_filter_le _ _) (by rw [List.length_range]; omega))) (fun s y H3 hs x3 r => ⟨?_, fun _ => ?_⟩) scNext.nd
      (blkOk_by (N := nNext) (sc := defScope sFittingNextSpots) (by decide +kernel))) fun b H3 nb x3 r => q b H3 (Evl.fresh_back x12 nb) (x12.trans x3) ?_))
    · have r' : y = .int (s : Int) := r
      subst r'
      have hs' : s < d.f.th.length := List.mem_range.mp (List.mem_filter.mp hs).1
      intro _ _ _ _ _
      refine (mt_eqS (me_I0 op_and ((me_ixL (R := RN) (d := d.f.ah.getD s 0) (me_is (me_fld c.cls c.n2 (me_var 0) (x3 _ _ (x12 _ _ hi)) rfl) (liN.mpr ⟨pA, rfl, x3 _ _ (x12 _ _ hA)⟩)) (me_var 5) ?_).imp fun v H x h => h) (me_un (g := fun i => .int (Builtin.bitNot i)) un_inv (me_var 1))) me_int).is (subZero _ _)
      rw [atNat]
      exact getD_at (by omega)
    · intro _ _ _ _ _
      exact me_is (me_var 5) r
    · rw [mapSelf] at r
      exact r
end
end Wk
set_option Elab.async false
set_option linter.all false
set_option maxRecDepth 100000
set_option maxHeartbeats 4000000
/-! Walks over what is made for them, and walks that change more. -/
namespace Wk
open PySem PySem.Spec PyProof.Rows L2

/-- what a loop may change: nothing of Hb, nothing that was made for its walk -/
def Off (Hb H H2 : Hp) (b : Addr) : Prop := Hb b = none ∧ (H b ≠ none ∨ H2 b = none)
def HoldsT (Hb H H2 : Hp) (G : Hp → Prop) : Prop := ∀ H3 H4 : Hp, ExB (Off Hb H H2) H3 H4 → Tk H3 H4 → G H3 → G H4
def MIX (X : Cx) (tg iter : Expr) (σ : L2.St) (Hb H : Hp) (n : Nat) (Y : Nat → Pv) : Prop := ∀ R : It → Hp → Prop,
  (∀ J H2 G, Ex H H2 → G H2 → HoldsT Hb H H2 G → WalkF J n G Y → R J H2) → WI X tg iter σ H R
def noHp : Hp := fun _ => none
section
variable {X : Cx} {tg iter : Expr} {σ : L2.St} {H Hb : Hp} {n : Nat} {Y : Nat → Pv}
theorem MI.x (h : MI X tg iter σ Hb n Y) (x : Ex Hb H) : MIX X tg iter σ Hb H n Y := fun R q => h H x R fun J H2 G x2 g hold W => q J H2 G x2 g (fun H3 H4 xb _ g3 => hold (Off Hb H H2) H3 H4 (fun b d => d) xb g3) W
/-- a new list, made for the walk -/
theorem mix_new {α : Type} {R : Rp α} {ds : List α} [m : Im R] (h : MN X iter σ H (Li R ds)) : MIX X tg iter σ noHp H ds.length (At R ds) := fun R0 q =>
  .of (pi_list pe_we) (h H (exr H) _ fun c H2 nc x2 t => by
    obtain ⟨c', xs, e, hc, hp⟩ := t
    cases e
    refine ⟨c, rfl, ⟨xs, SqL.of hc⟩, q _ H2 (fun H3 => H3 c = some (.lst xs) ∧ Paired (fun x d => R d x H3) xs ds) x2 ⟨hc, hp⟩ (fun H3 H4 xb tk ⟨g1, g2⟩ => ⟨xb c _ (fun d => d.2.elim (fun z => z nc) fun z => by rw [hc] at z; cases z) g1, pImp (fun _ _ r => m.im tk r) g2⟩) ⟨fun i H3 g hi => ?_, fun i H3 x H' g hi y => ?_, fun i H3 g hi => ?_⟩⟩
    · have hx : i < xs.length := by rw [pLen hp]; exact hi
      exact ⟨xs, xs[i], SqL.of g.1, List.getElem?_eq_getElem hx⟩
    · obtain ⟨e1, y⟩ := y
      subst e1
      have g1 := y xs (SqL.of g.1)
      obtain ⟨x', h1, h2⟩ := pAt g.2 (List.getElem?_eq_getElem hi)
      rw [g1] at h1
      cases h1
      exact ⟨exr _, _, List.getElem?_eq_getElem hi, h2⟩
    · exact ⟨xs, SqL.of g.1, by rw [pLen hp]; exact hi⟩)
theorem tkR (H : Hp) : Tk H H := fun _ _ h => h
theorem Tk.trans {H H1 H2 : Hp} (a : Tk H H1) (b : Tk H1 H2) : Tk H H2 := fun c xs h => b c xs (a c xs h)
theorem offNo {b : Addr} {H2 : Hp} (h : H b ≠ none ∨ H2 b = none) : Off noHp H H2 b := ⟨rfl, h⟩
theorem ExB.sub {D D' : Addr → Prop} {H H' : Hp} (x : ExB D H H') (h : ∀ b, D b → D' b) : ExB D' H H' := fun b o n e => x b o (fun d => n (h b d)) e
theorem ws_forX {body : List Stmt} {E : Ends} {pos : Pos} (P : Hp → Nat → L2.St → Hp → Prop) (mi : MIX X tg iter σ Hb H n Y) (hp : PassesOwn (model X.prog X.w) X.A X.env X.xe) (hc : X.calm = true)
    (h0 : ∀ H2, Ex H H2 → P H2 0 σ H2)
    (hs : ∀ H2 i x σ' H3 H4, Ex H H2 → i < n → P H2 i σ' H3 → Ex H3 H4 → Y i x H4 → WG X tg x σ' H4 fun σ2 H5 =>
      WSs X body { E with nx := fun σ3 H6 => P H2 (i + 1) σ3 H6 ∧ ExB (Off Hb H H2) H3 H6 ∧ Tk H3 H6, ct := fun σ3 H6 => P H2 (i + 1) σ3 H6 ∧ ExB (Off Hb H H2) H3 H6 ∧ Tk H3 H6, bk := E.nx } σ2 H5)
    (hd : ∀ H2 σ' H3, Ex H H2 → P H2 n σ' H3 → E.nx σ' H3) (hf : ∀ x, foldedSetIterable iter X.env x = pure x := by intro _; rfl) : WS X (.For tg iter body [] pos) E σ H := by
  refine .of (ps_for hp hc pi_wi pg_wg pss_wss hf) (mi _ fun J H2 G x2 g hold W => ?_)
  refine ⟨fun i m σ' H3 => m = n - i ∧ i ≤ n ∧ P H2 i σ' H3 ∧ G H3, ⟨n, by omega, Nat.zero_le _, h0 H2 x2, g⟩, ?_⟩
  rintro i m σ' H3 ⟨rfl, hi, hP, hG⟩
  by_cases hlt : i < n
  · refine .inr ⟨W.go i H3 hG hlt, fun σ3 H6 => P H2 (i + 1) σ3 H6 ∧ ExB (Off Hb H H2) H3 H6 ∧ Tk H3 H6, fun σ3 H6 ⟨hP', xb, tk⟩ => ⟨n - (i + 1), by omega, rfl, hlt, hP', hold H3 H6 xb tk hG⟩, fun x H4 y => ?_⟩
    obtain ⟨x4, y4⟩ := W.yld i H3 x H4 hG hlt y
    exact hs H2 i x σ' H3 H4 x2 hlt hP x4 y4
  · have e : i = n := by omega
    subst e
    exact .inl ⟨W.stop i H3 hG (Nat.le_refl _), hd H2 σ' H3 x2 hP⟩
/-- a list, made for the walk, its items known by what they are -/
theorem mi_new {α : Type} {R : Rp α} {ds : List α} (hR : ∀ {d : α} {v : V} {H H' : Hp}, R d v H → R d v H') (h : MN X iter σ H (Li R ds)) : MI X tg iter σ H ds.length (At R ds) := fun H1 x1 R0 q =>
  .of (pi_list pe_we) (h H1 x1 _ fun c H2 nc x2 t => by
    obtain ⟨c', xs, e, hc, hp⟩ := t
    cases e
    have h1c : H1 c = none := nc
    refine ⟨c, rfl, ⟨xs, SqL.of hc⟩, q _ H2 (fun H3 => Ex H H3 ∧ H3 c = some (.lst xs)) x2 ⟨x1.trans x2, hc⟩ (holdsNew h1c (by rw [hc]; exact fun z => nomatch z)) ⟨fun i H3 g hi => ?_, fun i H3 x H' g hi y => ?_, fun i H3 g hi => ?_⟩⟩
    · have hx : i < xs.length := by rw [pLen hp]; exact hi
      exact ⟨xs, xs[i], SqL.of g.2, List.getElem?_eq_getElem hx⟩
    · obtain ⟨e1, y⟩ := y
      subst e1
      have g1 := y xs (SqL.of g.2)
      obtain ⟨x', h1, h2⟩ := pAt hp (List.getElem?_eq_getElem hi)
      rw [g1] at h1
      cases h1
      exact ⟨exr _, _, List.getElem?_eq_getElem hi, hR h2⟩
    · exact ⟨xs, SqL.of g.2, by rw [pLen hp]; exact hi⟩)
theorem mi_newN {ds : List Nat} (h : MN X iter σ H (Li RN ds)) : MI X tg iter σ H ds.length (At RN ds) := mi_new (fun h => h) h
end
end Wk
set_option Elab.async false
set_option linter.all false
set_option maxRecDepth 100000
set_option maxHeartbeats 4000000
/-! The class Fitting: many, gone_on. -/
namespace Wk
open PySem PySem.Spec PyProof.Rows L2
def go (st : State) (s : Nat) : State := (st.1 ||| 2 ^ s, some s)
abbrev Tbl := List (State × Nat)
abbrev GD := FD × List Tbl
abbrev RT (P : Program) (w : World) : Rp Tbl := Dx P w encSt RSt RN
def RG (C : Addr) (P : Program) (w : World) : Rp GD := fun d v H => ∃ (a dx : Addr) (vt : V) (pA pB pL : Addr), v = .ref a ∧ H a = some (.ins C dx (fs3 vt pA pB [(("levels" : Str), V.ref pL)])) ∧ Tu RI d.1.th vt H ∧ H pA = some (lstN d.1.ah) ∧ H pB = some (lstN d.1.be) ∧ Li (RT P w) d.2 (.ref pL) H
instance {C : Addr} {P : Program} {w : World} : MoR (RG C P w) := ⟨fun x ⟨a, dx, vt, pA, pB, pL, h1, h2, h4, h5, h6, h7⟩ => ⟨a, dx, vt, pA, pB, pL, h1, x _ _ h2, MoR.mo (R := Tu RI) x h4, x _ _ h5, x _ _ h6, MoR.mo (R := Li (RT P w)) x h7⟩⟩
theorem RG.f {C : Addr} {P : Program} {w : World} {d : GD} {v : V} {H : Hp} (h : RG C P w d v H) : RF C d.1 v H := by
  obtain ⟨a, dx, vt, pA, pB, pL, h1, h2, h4, h5, h6, h7⟩ := h
  exact ⟨a, dx, _, vt, pA, pB, h1, h2, .inr ⟨_, rfl⟩, h4, h5, h6⟩
section
variable {P : Program} {w : World} {K : PySem.W.Frag} {mg : Str → Option Value} {base : Heap} {C : Addr}
theorem mtSt {X : Cx} {a b : Expr} {σ : L2.St} {H : Hp} {pos : Pos} {k2 : Nat} {st : State} (ha : ME X a σ H (Is (.int (st.1 : Int)))) (hb : ME X b σ H (Is (lastV st.2))) (hs : starEach [a, b] X.env = (false, eval a X.env) :: starEach [b] X.env := by rfl) (hs2 : starEach [b] X.env = (false, eval b X.env) :: starEach [] X.env := by rfl) : MN X (.Tuple [a, b] k2 pos) σ H (RSt st) :=
  (mn_tup (ma_cons ha (ma_cons hb ma_nil hs2) hs) (moCons (moCons moNil)) (by simp)).imp fun v H' h => by
    obtain ⟨t, xs, h1, h2, h3⟩ := h
    obtain ⟨x, y, rfl, h4, h5⟩ := p2 h3
    have e1 : x = .int (st.1 : Int) := h4
    have e2 : y = lastV st.2 := h5
    subst e1 e2
    exact ⟨t, h1, .inl h2⟩
structure DM where
  d : GD
  m : Nat
abbrev spMany (C : Addr) (P : Program) (w : World) : Sp := SpD (δ := DM) (fun d => [RG C P w d.d]) (fun d => ∃ t, d.d.2[0]? = some t ∧ lkx t ((0, none) : State) = some d.m) fun d => Is (.int (d.m : Int))
theorem scMany : FnScope ["self"] ["self"] (defScope sFittingMany) := ⟨rfl, rfl, rfl, by decide +kernel, rfl, by decide +kernel, by decide +kernel⟩
theorem hMany (c : FC K C) (D : DfM K C "many" "Fitting.many" sFittingMany) : HasM P w K mg base CX0 C "many" 1 ["self"] (spMany C P w) :=
  .mkD D scMany (fun _ _ _ _ _ _ us hl => match us, hl with | [_], _ => rfl) (fun _ => rfl) fun f cdv A outer s H vs Q E d hr ho ha q => by
    obtain ⟨v, rfl, h1⟩ := p1 ha
    obtain ⟨a, dx, vt, pA, pB, pL, rfl, hi, ht, hA, hB, hL⟩ := h1
    obtain ⟨t, ht0, hm⟩ := ho
    exact wss_one (ws_ret (ME.we (me_xget (S := RN) kSt hr (me_ixL (R := RT P w) (me_is (me_fld c.cls c.n4 (me_var 0) hi rfl) hL) me_int (show atI d.d.2 ((0 : Nat) : Int) = some t by rw [atNat]; exact ht0)) (mtSt (st := (0, none)) me_int me_non).me hm) fun u H4 x4 p => q u H4 x4 p))

structure DG where
  d : GD
  size : Nat
  st : State
def tblAt (d : GD) (k : Nat) : Tbl := d.2.getD k []
def goneOn (d : GD) (size : Nat) (st : State) : List State := ((nexts d.1 st).map (go st)).filter fun z => decide (0 < (lkx (tblAt d (size + 1)) z).getD 0)
structure OkG (d : DG) : Prop where
  good : GoodF d.d.1
  last : LastOk d.d.1 d.st
  tbl : d.size + 1 < d.d.2.length
  all : ∀ s ∈ nexts d.d.1 d.st, (lkx (tblAt d.d (d.size + 1)) (go d.st s)).isSome = true
abbrev spGone (C : Addr) (P : Program) (w : World) : Sp := SpN (δ := DG) (fun d => [RG C P w d.d, Is (.int (d.size : Int)), Is (.int (d.st.1 : Int)), Is (lastV d.st.2)]) OkG fun d => Li RSt (goneOn d.d d.size d.st)
abbrev nGone : List Str := ["self", "size", "bits", "last", "some", "spot", "state"]
theorem scGone : FnScope nGone ["self", "size", "bits", "last"] (defScope sFittingGoneOn) := ⟨rfl, rfl, rfl, by decide +kernel, rfl, by decide +kernel, by decide +kernel⟩
theorem nextsLt {d : FD} {st : State} {s : Nat} (h : s ∈ nexts d st) : s < d.th.length := List.mem_range.mp (List.mem_filter.mp (List.mem_filter.mp h).1).1
theorem nextsLen (d : FD) (st : State) : (nexts d st).length ≤ d.th.length := Nat.le_trans (List.length_filter_le _ _) (Nat.le_trans (List.length_filter_le _ _) (by rw [List.length_range]; exact Nat.le_refl _))
theorem hGone (c : FC K C) (D : DfM K C "gone_on" "Fitting.gone_on" sFittingGoneOn) (G : HasM P w K mg base CX0 C "next_spots" 1 ["self", "bits", "last"] (spNext C)) : HasM P w K mg base CX0 C "gone_on" 2 ["self", "size", "bits", "last"] (spGone C P w) :=
  .mkN D scGone (fun _ _ _ _ _ _ us hl => match us, hl with | [_, _, _, _], _ => rfl) (fun _ => rfl) fun f cdv A outer s H vs Q E d hr ho ha q => by
    obtain ⟨v, u, z, r, rfl, h1, h2, h3, h4⟩ := p4 ha
    have h2' : u = .int (d.size : Int) := h2
    have h3' : z = .int (d.st.1 : Int) := h3
    have h4' : r = lastV d.st.2 := h4
    subst h2' h3' h4'
    have hf := h1.f
    obtain ⟨a, dx, vt, pA, pB, pL, rfl, hi, ht, hA, hB, hL⟩ := h1
    have gl := ho.good.len
    have nl := nextsLen d.d.1 d.st
    refine wss_cons (ws_n0 (R := RN) (S := RSt) (j := 4) 5 (mi_newN (mn_methD (⟨d.d.1, d.st⟩ : DN) (P0 := RF C d.d.1) c.cls G (hr.mono (by decide)) ⟨ho.good, ho.last⟩ (me_var 0) hi rfl hf (ma_cons (me_var 2) (ma_cons (me_var 3) ma_nil)))) (go d.st) (small1000 (by simp only []; omega)) (fun s y H3 hs x3 r => ?_) (fun l H2 nl x2 hl => ?_) scGone.nd
      (blkOk_by (N := nGone) (sc := defScope sFittingGoneOn) (by decide +kernel)))
    · have r' : y = .int (s : Int) := r
      subst r'
      have hlt := nextsLt hs
      intro _ _ _ _ _
      exact (mtSt (st := go d.st s) (me_or' (me_var 2) (me_shl1 me_int (me_var 5) (by simp only [] at hlt; omega))) (me_var 5)).me
    have hL2 := MoR.mo (R := Li (RT P w)) x2 hL
    refine wss_one (ws_ret (MN.we (mn_n1 (R := RSt) (S := RSt) 6 (mi_lst (me_var 4) hl) (fun z => decide (0 < (lkx (tblAt d.d (d.size + 1)) z).getD 0)) (fun z => z) (small1000 (by rw [List.length_map]; simp only []; omega)) (fun st y H3 hs x3 r => ⟨?_, fun _ => ?_⟩) scGone.nd
      (blkOk_by (N := nGone) (sc := defScope sFittingGoneOn) (by decide +kernel))) fun b H3 nb x3 r => q b H3 (Evl.fresh_back x2 nb) (x2.trans x3) ?_))
    · obtain ⟨s, hs1, rfl⟩ := List.mem_map.mp hs
      obtain ⟨m, hm⟩ := Option.isSome_iff_exists.mp (ho.all s hs1)
      have htb := ho.tbl
      have ht1 : d.d.2[d.size + 1]? = some (tblAt d.d (d.size + 1)) := by
        unfold tblAt
        rw [List.getD_eq_getElem?_getD, List.getElem?_eq_getElem htb]
        rfl
      intro _ _ _ _ _
      have e1 : decide ((0 : Int) < ((m : Nat) : Int)) = decide (0 < (lkx (tblAt d.d (d.size + 1)) (go d.st s)).getD 0) := by
        rw [hm]
        simp
      refine (mt_cI op_gt ((me_xget (S := RN) (d := m) kSt hr (me_ixL (R := RT P w) (me_is (me_fld c.cls c.n4 (me_var 0) (x3 _ _ (x2 _ _ hi)) rfl) (MoR.mo (R := Li (RT P w)) x3 hL2)) (me_I0 op_add (me_var 1) me_int) ?_) (me_is (me_var 6) r) hm).imp fun v H x h => h) me_int).is e1
      have e2 : ((d.size : Int) + 1) = ((d.size + 1 : Nat) : Int) := by omega
      rw [e2, atNat]
      exact ht1
    · intro _ _ _ _ _
      exact me_is (me_var 6) r
    · rw [mapSelf] at r
      exact r
end
end Wk
set_option Elab.async false
set_option linter.all false
set_option maxRecDepth 100000
set_option maxHeartbeats 4000000
/-! List items set; tuples whose object is known; a list of new lists. -/
namespace Wk
open PySem PySem.Spec PyProof.Rows L2

/-! ### xs[i] = e -/
section
variable {X : Cx} {o i e : Expr} {σ : L2.St} {H : Hp} {pos pos' : Pos} {D : Ends}
theorem ixNat {n j : Nat} (h : j < n) : ixN n (j : Int) = some j := by
  unfold ixN
  rw [if_pos (by omega), if_pos (by omega)]
  rfl
theorem ws_lset {p : Addr} {xs : List V} {j : Nat} {P : Pv} [m : Mo P] (hp : H p = some (.lst xs)) (ho : ME X o σ H (Is (.ref p))) (hi : ME X i σ H (Is (.int (j : Int)))) (hv : ME X e σ H P) (hj : j < xs.length) (next : ∀ v H2, Ex H H2 → P v H2 → D.nx σ (upd H2 p (.lst (xs.set j v))))
    (ha : ∀ v, assign (.Subscript o i pos') X.env v = (do
      let ov ← holding [v] (eval o X.env)
      let iv ← holding [v, ov] (eval i X.env)
      standAt pos'
      holding [v, ov, iv] (setItem ov iv v)
      release [v, ov, iv] []) := by intro _; rfl)
    (hs : swapsWithSole [.Subscript o i pos'] e pos.line X.env = pure false := by rfl) (hw : swappedStores [.Subscript o i pos'] e X.env = pure none := by rfl)
    (h1 : (assignEach [.Subscript o i pos'] X.env).map (·.2) = [assign (.Subscript o i pos') X.env] := by rfl) : WS X (.Assign [.Subscript o i pos'] e pos) D σ H :=
  ws_asg (hv.we fun v H1 x1 pv => .of (pg_sub pe_we pe_we set_list ha) (ho.ex x1 fun x H2 x2 p2 => hi.ex (x1.trans x2) fun y H3 x3 p3 => by
    have x13 := x1.trans (x2.trans x3)
    exact ⟨p, xs, (j : Int), j, p2, p3, x13 _ _ hp, ixNat hj, next v H3 x13 (m.mo (x2.trans x3) pv)⟩)) hs hw h1
/-- of a dict -/
theorem ws_xput' {κ β : Type} [DecidableEq κ] {enc : κ → NK} {KR : Rp κ} {S : Rp β} {ds : List (κ × β)} {k : κ} {d : β} {n : Nat} {t : Addr} [Im KR] [Im S] (K : KOk enc KR) (hr : Room n X.A) (ht : Dx X.prog X.w enc KR S ds (.ref t) H) (ho : ME X o σ H (Is (.ref t))) (hi : ME X i σ H (KR k)) (hv : ME X e σ H (S d)) (hz : ds.length ≤ 1000)
    (next : ∀ H2, ExB (· = t) H H2 → Tk H H2 → Dx X.prog X.w enc KR S (putx ds k d) (.ref t) H2 → D.nx σ H2) (hs : swapsWith e (some (.Subscript o i pos')) pos.line X.env = pure false := by rfl) : WS X (.Assign [.Subscript o i pos'] e pos) D σ H := ws_xput K hr ht ho hi hv hz next hs
end

/-! ### tuples of ints whose object is known -/
/-- its object, its items -/
def frzT (o : Obj) (ns : List Int) : HO := .frz o (.tup (ns.map V.int))
def tTupK (t : TA) : TE := fun σ H Q => t σ H fun xs H1 => xs.length ≤ sizeLine ∧ ∀ p o, H1 p = none → o.dict = none → Q (.ref p) (upd H1 p (.frz o (.tup xs)))
section
variable {X : Cx} {e a b o : Expr} {es : List Expr} {σ : L2.St} {H : Hp} {pos p apos : Pos} {t : TA} {ns ms : List Int}
theorem pe_tupK {x1} (h : PA X es t) : PE X (.Tuple es x1 pos) (tTupK t) := by
  refine ⟨fun pins s σ H Q I hq => ?_⟩
  refine wpAny_Tuple_spliced (thn (h.run pos pins s σ H _ I hq) fun us s1 ⟨xs, H1, I1, r, z, q⟩ => ⟨by rw [← r.length]; exact z, ?_⟩)
  have hf : H1 s1.heap.objs.size = none := I1.hok.fresh (Nat.le_refl _)
  refine ⟨.ref s1.heap.objs.size, upd H1 s1.heap.objs.size (.frz _ (.tup xs)), I1.laid (t' := s1.toks) (fun b u e => Heap.get?_push_of_some _ e) (Nat.le_refl _) ?_, rfl, q _ { cls := .type "tuple", data := .seq us.toArray } hf rfl⟩
  exact ⟨Heap.get?_push_size _ rfl, z, us, r, ⟨_, Heap.get?_push_size _ rfl, rfl, _, rfl⟩⟩
def rCatK (K : PySem.W.Frag) : R2 := fun x y H Q => ∃ a b xs ys, x = .ref a ∧ y = .ref b ∧ SqT K H a xs ∧ SqT K H b ys ∧ xs.length + ys.length ≤ sizeLine ∧
  (xs = [] → Q (.ref b) H) ∧ (xs ≠ [] → ys = [] → Q (.ref a) H) ∧ (xs ≠ [] → ys ≠ [] → ∀ p o, H p = none → o.dict = none → Q (.ref p) (upd H p (.frz o (.tup (xs ++ ys)))))
theorem op_catK : OpR X (binaryOp .Add) (rCatK X.K) := by
  intro pins s σ H x y v u Q I rx ry h
  obtain ⟨a, b, xs, ys, rfl, rfl, ha, hb, hz, q0, q1, q2⟩ := h
  cases rx
  cases ry
  obtain ⟨its, r1, p1, _⟩ := I.tuple ha
  obtain ⟨its2, r2, p2, _⟩ := I.tuple hb
  by_cases hx : xs = []
  · subst hx
    cases r1
    exact cat_tup0 p1 p2 ⟨.ref b, H, I, rfl, q0 rfl⟩
  · refine HT.cat_tup p1 p2 (fun z => hx (r1.nil_iff.mp z)) (fun z => ⟨.ref a, H, I, rfl, q1 hx (r2.nil_iff.mp z)⟩) (fun z => ?_) (by rw [← r1.length, ← r2.length]; exact hz)
    refine ⟨.ref s.heap.objs.size, _, I.laid (t' := s.toks) (o := .frz _ (.tup (xs ++ ys))) (fun b ob q => Heap.get?_push_of_some _ q) (Nat.le_refl _) ?_, rfl, q2 hx (fun w => z (r2.nil_iff.mpr w)) _ { cls := .type "tuple", data := .seq (its.toArray ++ its2.toArray) } (I.hok.fresh (Nat.le_refl _)) rfl⟩
    have e1 : its.toArray ++ its2.toArray = (its ++ its2).toArray := by simp
    rw [e1]
    exact ⟨Heap.get?_push_size _ rfl, by rw [List.length_append]; exact hz, _, r1.append r2, IsTup.new _ _⟩
/-- tuple(xs), xs a list -/
theorem callTupK : CallR X (.type "tuple") (fun xs H Q => ∃ p ys, xs = [.ref p] ∧ H p = some (.lst ys) ∧ ∀ l o, H l = none → o.dict = none → Q (.ref l) (upd H l (.frz o (.tup ys)))) := by
  intro pins s σ H xs us Q I r h
  obtain ⟨p, ys, rfl, hq, q⟩ := h
  obtain ⟨u, rfl, rx⟩ := vals1 r
  cases rx
  obtain ⟨its, r', pl, hz⟩ := I.list (SqL.of (K := X.K) hq)
  have hlen := r'.length
  refine call_tuple_list pl.isList (fun h' kp => ?_) (by simp only [List.size_toArray] <;> omega)
  have I1 : Inv X pins σ H { s with heap := h' } := I.kept (t' := s.toks) kp
  have I2 : Inv X pins σ (upd H h'.objs.size (.frz { cls := .type "tuple", data := .seq its.toArray } (.tup ys))) { s with heap := h'.push { cls := .type "tuple", data := .seq its.toArray } } :=
    I1.laid (t' := s.toks) (fun b o e => Heap.get?_push_of_some _ e) (Nat.le_refl _) (show ObjOk X.prog X.w _ _ _ (.frz _ (.tup ys)) from ⟨Heap.get?_push_size _ rfl, hz, its, r', IsTup.new _ _⟩)
  exact ⟨.ref h'.objs.size, _, I2, rfl, q _ _ (I1.hok.fresh (Nat.le_refl _)) rfl⟩
theorem tupK_of {H' : Hp} {p : Addr} {o : Obj} {xs : List V} (h : Paired (fun x d => RI d x H) xs ns) (d : o.dict = none) (e : H' p = some (.frz o (.tup xs))) : TuK ns (.ref p) H' := ⟨p, o, rfl, d, by rw [e, pairI.mp h]⟩
theorem mn_tupK0 {k : Nat} : MN X (.Tuple [] k pos) σ H (TuK []) := fun H1 x1 Q q => .of (pe_tupK pa_nil) ⟨Nat.zero_le _, fun p o hp d => q p _ hp (exNew hp) ⟨p, o, rfl, d, upd_same⟩⟩
theorem mn_tupK1 {k : Nat} {n : Int} (h : ME X e σ H (Is (.int n))) (hs : starEach [e] X.env = (false, eval e X.env) :: starEach [] X.env := by rfl) : MN X (.Tuple [e] k pos) σ H (TuK [n]) := fun H1 x1 Q q =>
  .of (pe_tupK pa_wa) (ma_cons h ma_nil hs H1 x1 _ fun vs H2 x2 ps => by
    obtain ⟨x, rfl, hx⟩ := p1 ps
    have e' : x = .int n := hx
    subst e'
    exact ⟨by show 1 ≤ sizeLine; decide, fun p o hp d => q p _ (Evl.fresh_back x2 hp) (x2.trans (exNew hp)) ⟨p, o, rfl, d, upd_same⟩⟩)
theorem me_catK (ha : ME X a σ H (TuK ns)) (hb : ME X b σ H (TuK ms)) (hz : ns.length + ms.length ≤ 1000) : ME X (.BinOp a .Add b pos) σ H (TuK (ns ++ ms)) :=
  me_op op_catK ha hb fun x y H1 x1 t u Q q => by
    obtain ⟨c, o, rfl, h1, h2⟩ := t
    obtain ⟨d, o', rfl, h3, h4⟩ := u
    refine ⟨c, d, _, _, rfl, rfl, .inl (.inr ⟨_, h2⟩), .inl (.inr ⟨_, h4⟩), by rw [List.length_map, List.length_map]; exact sq1000 hz, fun e => ?_, fun _ e => ?_, fun _ _ p ob hp hd => ?_⟩
    · have e' : ns = [] := List.map_eq_nil_iff.mp e
      subst e'
      exact q _ H1 (exr H1) ⟨d, o', rfl, h3, h4⟩
    · have e' : ms = [] := List.map_eq_nil_iff.mp e
      subst e'
      exact q _ H1 (exr H1) ⟨c, o, rfl, h1, by rw [List.append_nil]; exact h2⟩
    · exact q _ _ (exNew hp) ⟨p, ob, rfl, hd, by rw [List.map_append]; exact upd_same⟩
theorem mn_tupleK (B : Bl X.mg) (h : ME X a σ H (Li RI ns)) (hg : Gl X "tuple" := by rfl) (hs : starEach [a] X.env = (false, eval a X.env) :: starEach [] X.env := by rfl) : MN X (.Call (.Name "tuple" p) [a] [] pos) σ H (TuK ns) := fun H1 x1 Q k =>
  .of (pe_callTy callTupK hg B.tuple btTuple pa_wa (by decide) (by decide) hs rfl) (ma_cons h ma_nil hs H1 x1 _ fun vs H2 x2 ps => by
    obtain ⟨x, rfl, t⟩ := p1 ps
    obtain ⟨q, rfl, h2⟩ := liI.mp t
    exact ⟨q, _, rfl, h2, fun l o hl d => k l _ (Evl.fresh_back x2 hl) (x2.trans (exNew hl)) ⟨l, o, rfl, d, upd_same⟩⟩)
/-- t.index(e) -/
def tIdxK (to : TE) (ta : TA) : TE := fun σ H Q => to σ H fun x H1 => ∃ q o ns, x = .ref q ∧ o.dict = none ∧ H1 q = some (frzT o ns) ∧ ta σ H1 fun vs H2 => ∃ k, vs = [.int k] ∧ H2 q = some (frzT o ns) ∧ k ∈ ns ∧ Q (.int (ns.idxOf k : Nat)) H2
theorem pe_idxK {to : TE} {ta : TA} (ho : PE X o to) (ha : PA X [e] ta) (hbase : attributeBase o "index" X.env (eval o X.env) = eval o X.env := by rfl)
    (hfew : ((backTo pos (starEach [e] X.env)).all (fun x => !x.1) && (backToKw pos (keywordEach [] X.env)).all (fun x => x.1.isSome) && decide ([e].length + ([] : List Keyword).length + (if ([] : List Keyword).isEmpty then 0 else 1) < 30)) = true := by rfl)
    (hline : (apos.endLine == pos.line) = true := by rfl) (hs : starEach [e] X.env = (false, eval e X.env) :: starEach [] X.env := by rfl) (hplain : (backTo pos (starEach [] X.env)).any (·.1) = false := by rfl) : PE X (.Call (.Attribute o "index" apos) [e] [] pos) (tIdxK to ta) := by
  refine ⟨fun pins s σ H Q I h => ?_⟩
  refine wpAny_Call_method_late hbase hfew hline rfl (thn (ho.run pins s σ H _ I h) fun v s1 ⟨x, H1, I1, r1, q, ob, ns, ex, hd, hq, q1⟩ => ?_)
  subst ex
  cases r1
  obtain ⟨g1, z, its, rv, pt⟩ := (show ObjOk X.prog X.w H1 s1.heap q (frzT ob ns) from I1.hok q _ hq)
  have hT : s1.TypeIs (.ref q) "tuple" := pt.typeIs
  refine ⟨"tuple", "tuple.index", PySem.F.plainAttrs_tuple, PySem.F.slot_tuple_index, PySem.F.type_tuple_index, hT, fun b e => by cases e; exact ⟨ob, g1, hd⟩, ?_⟩
  have hA := ha.run pos pins s1 σ H1 _ I1 q1
  rw [hs] at hA ⊢
  refine Calls.callWith_builtin (by show (false || (backTo pos (starEach [] X.env)).any (·.1)) = false; rw [hplain] <;> rfl) (Calls.evalArgs_plain ?_)
  refine thn hA fun us s2 ⟨vs, H2, I2, r2, k, evs, hq2, hk, q2⟩ => ?_
  subst evs
  obtain ⟨u, rfl, ru⟩ := r2.one
  obtain ⟨tk, rfl⟩ := ru
  obtain ⟨its2, rv2, pt2, _⟩ := I2.tuple (a := q) (xs := ns.map V.int) (.inl (.inr ⟨ob, hq2⟩))
  exact PySem.SeqAt.tuple_index_ints pt2 (intsAre_of rv2) hk ⟨.int (ns.idxOf k : Nat), H2, I2.tok _, ⟨_, rfl⟩, q2⟩
theorem me_idxK {k : Int} (ho : ME X o σ H (TuK ns)) (ha : ME X e σ H (Is (.int k))) (hk : k ∈ ns) (hbase : attributeBase o "index" X.env (eval o X.env) = eval o X.env := by rfl)
    (hfew : ((backTo pos (starEach [e] X.env)).all (fun x => !x.1) && (backToKw pos (keywordEach [] X.env)).all (fun x => x.1.isSome) && decide ([e].length + ([] : List Keyword).length + (if ([] : List Keyword).isEmpty then 0 else 1) < 30)) = true := by rfl)
    (hline : (apos.endLine == pos.line) = true := by rfl) (hs : starEach [e] X.env = (false, eval e X.env) :: starEach [] X.env := by rfl) (hplain : (backTo pos (starEach [] X.env)).any (·.1) = false := by rfl) : ME X (.Call (.Attribute o "index" apos) [e] [] pos) σ H (Is (.int (ns.idxOf k : Nat))) := fun H1 x1 Q q =>
  .of (pe_idxK pe_we pa_wa hbase hfew hline hs hplain) (ho H1 x1 _ fun x H2 x2 t => by
    obtain ⟨c, ob, rfl, hd, hc⟩ := t
    exact ⟨c, ob, ns, rfl, hd, hc, ma_cons ha ma_nil hs H2 (x1.trans x2) _ fun vs H3 x3 ps => by
      obtain ⟨y, rfl, hy⟩ := p1 ps
      have e' : y = .int k := hy
      exact ⟨k, by rw [e'], x3 _ _ hc, hk, q _ H3 (x2.trans x3) rfl⟩⟩)
end
end Wk
set_option Elab.async false
set_option linter.all false
set_option maxRecDepth 100000
set_option maxHeartbeats 4000000
/-! A list of new lists. -/
namespace Wk
open PySem PySem.Spec PyProof.Rows L2
/-- what is new -/
def newH (H1 H2 : Hp) : Hp := fun b => match H1 b with
  | none => H2 b
  | some _ => none
theorem newH_none {H1 H2 : Hp} {b : Addr} (h : H1 b = none) : newH H1 H2 b = H2 b := by
  unfold newH
  rw [h]
theorem newH_old {H1 H2 : Hp} {b : Addr} (h : H1 b ≠ none) : newH H1 H2 b = none := by
  unfold newH
  cases e : H1 b with
  | none => exact absurd e h
  | some o => rfl
theorem newH_ex {H1 H2 : Hp} : Ex (newH H1 H2) H2 := fun b o e => by
  cases h : H1 b with
  | none =>
    rw [newH_none h] at e
    exact e
  | some u =>
    rw [newH_old (by rw [h]; exact fun z => nomatch z)] at e
    cases e
section
variable {X : Cx} {iter elt : Expr} {scope : Scope} {σ : L2.St} {H : Hp} {pos px : Pos} {α : Type} {R : Rp α} {ds : List α} {x : Str}
theorem mn_nest (i : Nat) (mi : MI X (.Name x px) iter σ H ds.length (At R ds)) (f : α → List Nat) (small : ds.length < sizeLine) (turn : ∀ d v H3, d ∈ ds → Ex H H3 → R d v H3 → inBlk X scope fun Y => MN Y elt (σ.set i (some v)) H3 (Li RN (f d)))
    (hN : X.N.Nodup) (ok : BlkOk X.N X.env.scope scope [(x, i)]) {H1 : Hp} (x1 : Ex H H1) {Q : VK} (q : ∀ a H2, H1 a = none → Ex H1 H2 → Li (Li RN) (ds.map f) (.ref a) (newH H1 H2) → Q (.ref a) H2)
    (hx : inBlk X scope fun Y => Loc Y.env.scope x := by intro _ _ _ _ _; first | exact Or.inl rfl | exact Or.inr rfl)
    (hf : inBlk X scope fun Y => Y.fn x = true ∨ Y.env.scope.names.lookup x = some .local := by intro _ _ _ _ _; first | exact Or.inl rfl | exact Or.inr rfl) (hc : X.calm = true := by rfl) (hs : ∀ x, foldedSetIterable iter X.env x = pure x := by intro _; rfl) :
    WE X (.ListComp elt [⟨.Name x px, iter, [], 0⟩] scope pos) σ H1 Q := by
  refine .of (pe_lc (own := [(x, i)]) hc hN pi_wi ok pg_bG (fun _ _ _ _ _ => pts_nil) pe_bE hs) (mi H1 x1 _ fun J H2 G x2 g hold W D hD => ?_)
  have nD : H1 D = none := Evl.fresh_back x2 hD
  have nH : H D = none := Evl.fresh_back x1 nD
  have off : ∀ b, b = D → H b = none ∧ (H1 b ≠ none ∨ H2 b = none) := fun b d => by rw [d]; exact ⟨nH, .inr hD⟩
  refine ⟨fun j m H3 => m = ds.length - j ∧ j ≤ ds.length ∧ G H3 ∧ Ex H H3 ∧ Ex H2 H3 ∧ ∃ ys, H3 D = some (.lst ys) ∧ Paired (fun x d => ∃ c, x = V.ref c ∧ c ≠ D ∧ H1 c = none ∧ H3 c = some (.lst ((f d).map fun n : Nat => V.int (n : Int)))) ys (ds.take j),
    ⟨ds.length, by omega, Nat.zero_le _, hold (· = D) H2 _ off (ExB.up rfl) g, (x1.trans x2).trans (exNew hD), exNew hD, [], upd_same, .nil⟩, ?_⟩
  rintro j m H3 ⟨rfl, hi, hG, b3, x3, ys, hys, hp⟩
  by_cases hlt : j < ds.length
  · refine .inr ⟨W.go j H3 hG hlt, fun H6 => G H6 ∧ Ex H H6 ∧ Ex H2 H6 ∧ ∃ ys, H6 D = some (.lst ys) ∧ Paired (fun x d => ∃ c, x = V.ref c ∧ c ≠ D ∧ H1 c = none ∧ H6 c = some (.lst ((f d).map fun n : Nat => V.int (n : Int)))) ys (ds.take (j + 1)),
      fun H6 ⟨g6, b6, x6, z⟩ => ⟨ds.length - (j + 1), by omega, rfl, hlt, g6, b6, x6, z⟩, fun v H4 y => ?_⟩
    obtain ⟨x4, d, hd, hr⟩ := W.yld j H3 v H4 hG hlt y
    have keep : ∀ {H5 H6 : Hp}, Ex H3 H5 → ExB (· = D) H5 H6 → G H6 := fun {H5 H6} a b => hold (· = D) H3 H6 off ((ExB.of a).trans b) hG
    intro s0 H0 C cl fp
    have mg := mg_name (X := X.blk s0 H0 scope (compEnvC scope cl C X.env) fp) (pos := px) (v := v) (σ := σ.set i none) (H := H4) i hN (ok.ix _ List.mem_cons_self) (hx s0 H0 C cl fp) (hf s0 H0 C cl fp)
    rw [set2] at mg
    refine mg _ ⟨set2, ?_⟩
    unfold tYes
    simp only [↓reduceIte]
    intro s1 H01 C1 cl1 fp1
    refine (turn d v H4 (List.mem_of_getElem? hd) (b3.trans x4) hr s1 H01 C1 cl1 fp1).we fun c H6 nc x6 r6 => ?_
    have x36 : Ex H3 H6 := x4.trans x6
    have h6 : H6 D = some (.lst ys) := x36 _ _ hys
    have lys : ys.length ≤ j := by rw [pLen hp]; exact List.length_take_le _ _
    have n4 : H3 c = none := Evl.fresh_back x4 nc
    have cD : c ≠ D := fun z => by
      rw [z, hys] at n4
      cases n4
    have nc1 : H1 c = none := Evl.fresh_back x2 (Evl.fresh_back x3 n4)
    obtain ⟨c', e', hc6⟩ := liN.mp r6
    cases e'
    refine ⟨ys, h6, by omega, keep x36 (ExB.up rfl), ?_, ?_, ys ++ [V.ref c], upd_same, ?_⟩
    · exact ExB.off (D := (· = D)) (b3.trans x36) (ExB.up rfl) fun b e => by rw [e]; exact nH
    · exact ExB.off (D := (· = D)) (x3.trans x36) (ExB.up rfl) fun b e => by rw [e]; exact hD
    · rw [List.take_add_one, hd]
      exact pApp (pImp (fun _ _ ⟨c2, e1, e2, e3, e4⟩ => ⟨c2, e1, e2, e3, by rw [upd_ne e2]; exact x36 _ _ e4⟩) hp) (.cons ⟨c, rfl, cD, nc1, by rw [upd_ne cD]; exact hc6⟩ .nil)
  · have e : j = ds.length := by omega
    subst e
    rw [List.take_length] at hp
    refine .inl ⟨W.stop _ H3 hG (Nat.le_refl _), q D H3 nD (x2.trans x3) ⟨D, ys, rfl, by rw [newH_none nD]; exact hys, ?_⟩⟩
    clear mi turn small hold W hys hlt hi
    generalize ds = es at hp
    induction hp with
    | nil => exact .nil
    | @cons u d us es r t ih =>
      obtain ⟨c, e1, e2, e3, e4⟩ := r
      exact .cons (by rw [e1]; exact liN.mpr ⟨c, rfl, by rw [newH_none e3]; exact e4⟩) ih
end
end Wk
set_option Elab.async false
set_option linter.all false
set_option maxRecDepth 100000
set_option maxHeartbeats 4000000
/-! range with a step; sums of whole numbers. -/
namespace Wk
open PySem PySem.Spec PyProof.Rows L2
section
variable {X : Cx} {tg a b c : Expr} {σ : L2.St} {H : Hp} {pos p : Pos}
theorem mi_range3 {lo j k : Int} {n : Nat} (hm : X.mg "range" = none) (ha : ME X a σ H (Is (.int lo))) (hb : ME X b σ H (Is (.int j))) (hc : ME X c σ H (Is (.int k))) (ok : RgC lo j k n) (hg : Gl X "range" := by rfl)
    (h1 : starEach [a, b, c] X.env = (false, eval a X.env) :: starEach [b, c] X.env := by rfl) (h2 : starEach [b, c] X.env = (false, eval b X.env) :: starEach [c] X.env := by rfl) (h3 : starEach [c] X.env = (false, eval c X.env) :: starEach [] X.env := by rfl) (hpl : (backTo pos (starEach [b, c] X.env)).any (·.1) = false := by rfl) :
    MI X tg (.Call (.Name "range" p) [a, b, c] [] pos) σ H n fun i x _ => x = .int (lo + (i : Nat) * k) := fun H1 x1 Q q =>
  .of (pi_range3 hg hm (pa_cons pe_we (pa_cons pe_we (pa_cons pe_we pa_nil h3) h2) h1) h1 hpl) (ha H1 x1 _ fun u H2 x2 p => hb H2 (x1.trans x2) _ fun w H3 x3 p3 => hc H3 ((x1.trans x2).trans x3) _ fun z H4 x4 p4 => by
    have e : u = .int lo := p
    have e2 : w = .int j := p3
    have e3 : z = .int k := p4
    exact ⟨lo, j, k, n, by rw [e, e2, e3], ok, q _ H4 (Ex H) (x2.trans (x3.trans x4)) (((x1.trans x2).trans x3).trans x4) holdsBase ⟨fun i H3 g hi => hi, fun i H3 x H' g hi y => by
      obtain ⟨e1, y⟩ := y
      subst e1
      exact ⟨exr _, y⟩, fun i H3 g hi => hi⟩⟩)
theorem liNI {ns : List Nat} {v : V} {H : Hp} (h : Li RN ns v H) : Li RI (ns.map fun n : Nat => (n : Int)) v H := by
  obtain ⟨q, e, hq⟩ := liN.mp h
  refine liI.mpr ⟨q, e, ?_⟩
  rw [hq, List.map_map]
  rfl
theorem sumN (ns : List Nat) : (ns.map fun n : Nat => (n : Int)).sum = ((ns.sum : Nat) : Int) := by
  induction ns with
  | nil => rfl
  | cons n ns ih =>
    rw [List.map_cons, List.sum_cons, List.sum_cons, ih]
    push_cast
    rfl
theorem me_sumN {ns : List Nat} (B : Bl X.mg) (hc : X.calm = true) (h : ME X a σ H (Li RN ns)) (hg : Gl X "sum" := by rfl) (hs : starEach [a] X.env = (false, eval a X.env) :: starEach [] X.env := by rfl) : ME X (.Call (.Name "sum" p) [a] [] pos) σ H (Is (.int ((ns.sum : Nat) : Int))) := by
  have := me_sum (p := p) (pos := pos) B hc (h.imp fun v H' x r => liNI r) hg hs
  rw [sumN] at this
  exact this
end
end Wk
set_option Elab.async false
set_option linter.all false
set_option maxRecDepth 100000
set_option maxHeartbeats 4000000
/-! The class Fitting: sticks, bundles are laid. -/
namespace Wk
open PySem PySem.Spec PyProof.Rows L2
def stepA (st : List Nat × Nat) (s : Nat) : List Nat × Nat := (st.1.set s (st.1.getD s 0 ||| st.2), st.2 ||| 2 ^ s)
def layA (ah : List Nat) (spots : List Nat) : List Nat × Nat := spots.foldl stepA (ah, 0)
def stepB (all : Nat) (be : List Nat) (s : Nat) : List Nat := be.set s (be.getD s 0 ||| all)
def layB (be : List Nat) (spots : List Nat) : List Nat := spots.foldl (stepB (bitsOf spots)) be
def onlyH (H : Hp) (l : Addr) : Hp := fun b => if b = l then H b else none
theorem onlyAt {H : Hp} {l : Addr} : onlyH H l l = H l := if_pos rfl
theorem onlyNo {H : Hp} {l b : Addr} (h : b ≠ l) : onlyH H l b = none := if_neg h
theorem onlyEx {H : Hp} {l : Addr} : Ex (onlyH H l) H := fun b o e => by
  unfold onlyH at e
  by_cases h : b = l
  · rw [if_pos h] at e
    exact e
  · rw [if_neg h] at e
    cases e
theorem foldTake {α β : Type} (f : β → α → β) (b : β) (l : List α) (i : Nat) {d : α} (h : l[i]? = some d) : (l.take (i + 1)).foldl f b = f ((l.take i).foldl f b) d := by
  rw [List.take_add_one, h, List.foldl_append]
  rfl
theorem stepALen (st : List Nat × Nat) (s : Nat) : (stepA st s).1.length = st.1.length := by
  unfold stepA
  simp
theorem foldALen (ss : List Nat) : ∀ st : List Nat × Nat, (ss.foldl stepA st).1.length = st.1.length := by
  induction ss with
  | nil => exact fun _ => rfl
  | cons s ss ih => exact fun st => (ih _).trans (stepALen st s)
theorem foldBLen (all : Nat) (ss : List Nat) : ∀ be : List Nat, (ss.foldl (stepB all) be).length = be.length := by
  induction ss with
  | nil => exact fun _ => rfl
  | cons s ss ih => exact fun be => (ih _).trans (by unfold stepB; simp)
theorem insNe {H : Hp} {a p C dx : Addr} {fs : List (Str × V)} {xs : List V} (h : H a = some (.ins C dx fs)) (h' : H p = some (.lst xs)) : a ≠ p := ne_of h h' fun z => nomatch z
theorem mapSet (ns : List Nat) (s n : Nat) : (ns.map fun n : Nat => V.int (n : Int)).set s (.int (n : Int)) = (ns.set s n).map fun n : Nat => V.int (n : Int) := (List.map_set (f := fun n : Nat => V.int (n : Int))).symm
section
variable {P : Program} {w : World} {K : PySem.W.Frag} {mg : Str → Option Value} {base : Heap} {C : Addr}
def spStick (C : Addr) : Sp := fun vs H Q _ => ∃ (a dx : Addr) (tl : List (Str × V)) (vt : V) (pA pB l : Addr) (ah be spots : List Nat), vs = [.ref a, .ref l] ∧ H a = some (.ins C dx (fs3 vt pA pB tl)) ∧ pA ≠ pB ∧ H pA = some (lstN ah) ∧ H pB = some (lstN be) ∧ H l = some (lstN spots) ∧ l ≠ pA ∧ l ≠ pB ∧
  (∀ s ∈ spots, s < ah.length) ∧ be.length = ah.length ∧ ah.length ≤ 60 ∧ ∀ H', ExB (fun b => b = pA ∨ b = pB) H H' → Tk H H' → H' pA = some (lstN (layA ah spots).1) → H' pB = some (lstN (layB be spots)) → Q .non H'
abbrev nStick : List Str := ["self", "spots", "passed", "spot"]
theorem scStick : FnScope nStick ["self", "spots"] (defScope sFittingLayStick) := ⟨rfl, rfl, rfl, by decide +kernel, rfl, by decide +kernel, by decide +kernel⟩
theorem hStick (c : FC K C) (D : DfM K C "lay_stick" "Fitting.lay_stick" sFittingLayStick) (G : Has P w K mg base CX0 "bits_of" 1 ["spots"] spBits) : HasM P w K mg base CX0 C "lay_stick" 2 ["self", "spots"] (spStick C) :=
  .mk' D scStick (fun _ _ _ _ _ _ us hl => match us, hl with | [_, _], _ => rfl) (fun vs H Q E ⟨a, dx, tl, vt, pA, pB, l, ah, be, spots, h, _⟩ => by rw [h]; rfl) fun f cdv A outer s H vs Q E hr h => by
    obtain ⟨a, dx, tl, vt, pA, pB, l, ah, be, spots, rfl, hi, hne, hA, hB, hl, lA, lB, hs, hbl, hz, q⟩ := h
    have aA : a ≠ pA := insNe hi hA
    have aB : a ≠ pB := insNe hi hB
    refine wss_cons (ws_set 2 scStick.nd (ME.we me_int fun z H1 x1 p => ?_))
    have p' : z = .int (((spots.take 0).foldl stepA (ah, 0)).2 : Nat) := p
    subst p'
    refine wss_cons (ws_for (fun b => b = pA ∨ b = pB) (fun i σ H3 => ∃ g, σ = [some (.ref a), some (.ref l), some (.int (((spots.take i).foldl stepA (ah, 0)).2 : Nat)), g] ∧ ExB (fun b => b = pA ∨ b = pB) H H3 ∧ Tk H H3 ∧
        H3 pA = some (lstN ((spots.take i).foldl stepA (ah, 0)).1) ∧ H3 pB = some (lstN ((spots.take i).foldl (stepB (bitsOf spots)) be)))
      (mi_lst (R := RN) (H := onlyH H l) (me_var 1) (liN.mpr ⟨l, rfl, onlyAt.trans hl⟩)) (onlyEx.trans x1) (fun b e => by
        rcases e with e | e
        · rw [e]
          exact ⟨onlyNo (Ne.symm lA), by rw [x1 _ _ hA]; exact fun z => nomatch z⟩
        · rw [e]
          exact ⟨onlyNo (Ne.symm lB), by rw [x1 _ _ hB]; exact fun z => nomatch z⟩) PassesOwn.never rfl
      (fun H2 x2 => ⟨none, rfl, ExB.of (x1.trans x2), tkEx (x1.trans x2), (x1.trans x2) _ _ hA, (x1.trans x2) _ _ hB⟩) (fun i x σ H3 H4 hi' ⟨g, e, b3, t3, h3A, h3B⟩ x4 ⟨n, hn, r⟩ => ?_) fun σ H3 ⟨g, e, b3, t3, h3A, h3B⟩ => ?_)
    · subst e
      have r' : x = .int (n : Int) := r
      subst r'
      have nl : n < ah.length := hs n (List.mem_of_getElem? hn)
      have lenA : ((spots.take i).foldl stepA (ah, 0)).1.length = ah.length := foldALen _ _
      have lenB : ((spots.take i).foldl (stepB (bitsOf spots)) be).length = be.length := foldBLen _ _ _
      have ni : ∀ {b}, b ≠ pA → b ≠ pB → ¬ (b = pA ∨ b = pB) := fun h1 h2 h => h.elim h1 h2
      have i4 : H4 a = some (.ins C dx (fs3 vt pA pB tl)) := x4 _ _ (b3 _ _ (ni aA aB) hi)
      have l4 : H4 l = some (lstN spots) := x4 _ _ (b3 _ _ (ni lA lB) hl)
      have h4A := x4 _ _ h3A
      have h4B := x4 _ _ h3B
      refine wg_name 3 scStick.nd ?_
      -- self.ahead[spot] = self.ahead[spot] | passed
      refine wss_cons (ws_lset (j := n) (P := Is (.int ((((spots.take i).foldl stepA (ah, 0)).1.getD n 0 ||| ((spots.take i).foldl stepA (ah, 0)).2 : Nat) : Int))) h4A (me_fld c.cls c.n2 (me_var 0) i4 rfl) (me_var 3)
        (me_or' ((me_ixL (R := RN) (d := ((spots.take i).foldl stepA (ah, 0)).1.getD n 0) (me_is (me_fld c.cls c.n2 (me_var 0) i4 rfl) (liN.mpr ⟨pA, rfl, h4A⟩)) (me_var 3) (by rw [atNat]; exact getD_at (by omega))).imp fun v H x h => h) (me_var 2)) (by rw [List.length_map]; omega) fun v H5 x5 pv => ?_)
      have pv' : v = .int _ := pv
      subst pv'
      rw [mapSet]
      have i5 : upd H5 pA (lstN (((spots.take i).foldl stepA (ah, 0)).1.set n (((spots.take i).foldl stepA (ah, 0)).1.getD n 0 ||| ((spots.take i).foldl stepA (ah, 0)).2))) a = some (.ins C dx (fs3 vt pA pB tl)) := by
        rw [upd_ne aA]
        exact x5 _ _ i4
      have l5 : upd H5 pA (lstN (((spots.take i).foldl stepA (ah, 0)).1.set n (((spots.take i).foldl stepA (ah, 0)).1.getD n 0 ||| ((spots.take i).foldl stepA (ah, 0)).2))) l = some (lstN spots) := by
        rw [upd_ne lA]
        exact x5 _ _ l4
      have h5B : upd H5 pA (lstN (((spots.take i).foldl stepA (ah, 0)).1.set n (((spots.take i).foldl stepA (ah, 0)).1.getD n 0 ||| ((spots.take i).foldl stepA (ah, 0)).2))) pB = some (lstN ((spots.take i).foldl (stepB (bitsOf spots)) be)) := by
        rw [upd_ne (Ne.symm hne)]
        exact x5 _ _ h4B
      have t5 : Tk H4 (upd H5 pA (lstN (((spots.take i).foldl stepA (ah, 0)).1.set n (((spots.take i).foldl stepA (ah, 0)).1.getD n 0 ||| ((spots.take i).foldl stepA (ah, 0)).2)))) := (tkEx x5).trans (tkL (x5 _ _ h4A))
      have h5A : upd H5 pA (lstN (((spots.take i).foldl stepA (ah, 0)).1.set n (((spots.take i).foldl stepA (ah, 0)).1.getD n 0 ||| ((spots.take i).foldl stepA (ah, 0)).2))) pA = some (lstN ((spots.take (i + 1)).foldl stepA (ah, 0)).1) := by
        rw [upd_same, foldTake _ _ _ _ hn]
        rfl
      have b5 : ExB (fun b => b = pA ∨ b = pB) H4 (upd H5 pA (lstN (((spots.take i).foldl stepA (ah, 0)).1.set n (((spots.take i).foldl stepA (ah, 0)).1.getD n 0 ||| ((spots.take i).foldl stepA (ah, 0)).2)))) := (ExB.of x5).trans (ExB.up (.inl rfl))
      generalize upd H5 pA (lstN (((spots.take i).foldl stepA (ah, 0)).1.set n (((spots.take i).foldl stepA (ah, 0)).1.getD n 0 ||| ((spots.take i).foldl stepA (ah, 0)).2))) = H6 at i5 l5 h5B t5 h5A b5 ⊢
      -- self.beside[spot] = self.beside[spot] | bits_of(spots)
      refine wss_cons (ws_lset (j := n) (P := Is (.int ((((spots.take i).foldl (stepB (bitsOf spots)) be).getD n 0 ||| bitsOf spots : Nat) : Int))) h5B (me_fld c.cls c.n3 (me_var 0) i5 rfl) (me_var 3)
        (me_or' ((me_ixL (R := RN) (d := ((spots.take i).foldl (stepB (bitsOf spots)) be).getD n 0) (me_is (me_fld c.cls c.n3 (me_var 0) i5 rfl) (liN.mpr ⟨pB, rfl, h5B⟩)) (me_var 3) (by rw [atNat]; exact getD_at (by omega))).imp fun v H x h => h)
          (me_callD spots G hr (fun s hs' => Nat.le_trans (Nat.le_of_lt (hs s hs')) (by omega)) (ma_cons (me_is (me_var 1) (liN.mpr ⟨l, rfl, l5⟩)) ma_nil))) (by rw [List.length_map]; omega) fun v H7 x7 pv => ?_)
      have pv' : v = .int _ := pv
      subst pv'
      rw [mapSet]
      refine wss_one (ws_set 2 scStick.nd (ME.we (me_or' (me_var 2) (me_shl1 me_int (me_var 3) (by omega))) fun z H8 x8 p => ⟨⟨some (.int (n : Int)), ?_, ?_, ?_, ?_, ?_⟩, ?_⟩))
      · have p' : z = .int _ := p
        rw [p', foldTake _ _ _ _ hn]
        rfl
      · exact (b3.trans (ExB.of x4)).trans (b5.trans ((ExB.of x7).trans ((ExB.up (.inr rfl)).trans (ExB.of x8))))
      · exact (t3.trans (tkEx x4)).trans (t5.trans ((tkEx x7).trans ((tkL (x7 _ _ h5B)).trans (tkEx x8))))
      · refine x8 _ _ ?_
        rw [upd_ne hne]
        exact x7 _ _ h5A
      · refine x8 _ _ ?_
        rw [upd_same, foldTake _ _ _ _ hn]
        rfl
      · exact (ExB.of x4).trans (b5.trans ((ExB.of x7).trans ((ExB.up (.inr rfl)).trans (ExB.of x8))))
    · subst e
      rw [List.take_length] at h3A h3B
      exact wss_nil (q H3 b3 t3 h3A h3B)

/-! ### bundles -/
def orAt (p : Nat) (ah : List Nat) (s : Nat) : List Nat := ah.set s (ah.getD s 0 ||| p)
def rowStep (st : List Nat × Nat) (spots : List Nat) : List Nat × Nat := (spots.foldl (orAt st.2) st.1, st.2 ||| bitsOf spots)
def layRows (ah : List Nat) (rows : List (List Nat)) : List Nat × Nat := rows.foldl rowStep (ah, 0)
theorem orLen (p : Nat) (ss : List Nat) : ∀ ah : List Nat, (ss.foldl (orAt p) ah).length = ah.length := by
  induction ss with
  | nil => exact fun _ => rfl
  | cons s ss ih => exact fun ah => (ih _).trans (by unfold orAt; simp)
theorem rowLen (rows : List (List Nat)) : ∀ st : List Nat × Nat, (rows.foldl rowStep st).1.length = st.1.length := by
  induction rows with
  | nil => exact fun _ => rfl
  | cons r rows ih => exact fun st => (ih _).trans (orLen _ _ _)
/-- a list of whole numbers, not at p -/
def LiOff (p : Addr) : Rp (List Nat) := fun d v H => Li RN d v H ∧ v ≠ .ref p
instance {p : Addr} : MoR (LiOff p) := ⟨fun x ⟨h, n⟩ => ⟨MoR.mo (R := Li RN) x h, n⟩⟩
theorem liOff {p : Addr} {rows : List (List Nat)} {v : V} {H : Hp} (h : Li (Li RN) rows v H) (n : H p = none) : Li (LiOff p) rows v H := by
  obtain ⟨a, xs, h1, h2, h3⟩ := h
  refine ⟨a, xs, h1, h2, pImp (fun x d r => ⟨r, fun e => ?_⟩) h3⟩
  obtain ⟨c, ys, e1, e2, _⟩ := r
  rw [e1] at e
  cases e
  rw [e2] at n
  cases n
def spRows (C : Addr) : Sp := fun vs H Q _ => ∃ (a dx : Addr) (tl : List (Str × V)) (vt : V) (pA pB l : Addr) (ah : List Nat) (rows : List (List Nat)) (Hr : Hp), vs = [.ref a, .ref l] ∧ H a = some (.ins C dx (fs3 vt pA pB tl)) ∧ H pA = some (lstN ah) ∧ Ex Hr H ∧ Hr pA = none ∧ Li (Li RN) rows (.ref l) Hr ∧
  (∀ r ∈ rows, ∀ s ∈ r, s < ah.length) ∧ ah.length ≤ 60 ∧ ∀ H', ExB (fun b => b = pA) H H' → Tk H H' → H' pA = some (lstN (layRows ah rows).1) → Q .non H'
abbrev nRows : List Str := ["self", "rows", "passed", "spots", "spot"]
theorem scRows : FnScope nRows ["self", "rows"] (defScope sFittingLayBundles) := ⟨rfl, rfl, rfl, by decide +kernel, rfl, by decide +kernel, by decide +kernel⟩
theorem hRows (c : FC K C) (D : DfM K C "lay_bundles" "Fitting.lay_bundles" sFittingLayBundles) (G : Has P w K mg base CX0 "bits_of" 1 ["spots"] spBits) : HasM P w K mg base CX0 C "lay_bundles" 2 ["self", "rows"] (spRows C) :=
  .mk' D scRows (fun _ _ _ _ _ _ us hl => match us, hl with | [_, _], _ => rfl) (fun vs H Q E ⟨a, dx, tl, vt, pA, pB, l, ah, rows, Hr, h, _⟩ => by rw [h]; rfl) fun f cdv A outer s H vs Q E hr h => by
    obtain ⟨a, dx, tl, vt, pA, pB, l, ah, rows, Hr, rfl, hi, hA, xr, nr, hl, hs, hz, q⟩ := h
    have aA : a ≠ pA := insNe hi hA
    have lo := liOff hl nr
    refine wss_cons (ws_set 2 scRows.nd (ME.we me_int fun z H1 x1 p => ?_))
    have p' : z = .int (((rows.take 0).foldl rowStep (ah, 0)).2 : Nat) := p
    subst p'
    refine wss_cons (ws_for (fun b => b = pA) (fun i σ H3 => ∃ g g2, σ = [some (.ref a), some (.ref l), some (.int (((rows.take i).foldl rowStep (ah, 0)).2 : Nat)), g, g2] ∧ ExB (fun b => b = pA) H H3 ∧ Tk H H3 ∧ H3 pA = some (lstN ((rows.take i).foldl rowStep (ah, 0)).1))
      (mi_lst (R := LiOff pA) (H := Hr) (me_var 1) lo) (xr.trans x1) (fun b e => by rw [e]; exact ⟨nr, by rw [x1 _ _ hA]; exact fun z => nomatch z⟩) PassesOwn.never rfl
      (fun H2 x2 => ⟨none, none, rfl, ExB.of (x1.trans x2), tkEx (x1.trans x2), (x1.trans x2) _ _ hA⟩) (fun i x σ H3 H4 hi' ⟨g, g2, e, b3, t3, h3A⟩ x4 ⟨spots, hn, r⟩ => ?_) fun σ H3 ⟨g, g2, e, b3, t3, h3A⟩ => ?_)
    · subst e
      obtain ⟨r1, r2⟩ := r
      obtain ⟨m, rfl, hm⟩ := liN.mp r1
      have mA : m ≠ pA := fun z => r2 (by rw [z])
      have lenA : ((rows.take i).foldl rowStep (ah, 0)).1.length = ah.length := rowLen _ _
      have hsp := hs spots (List.mem_of_getElem? hn)
      have i4 : H4 a = some (.ins C dx (fs3 vt pA pB tl)) := x4 _ _ (b3 _ _ aA hi)
      have h4A := x4 _ _ h3A
      generalize hst : (rows.take i).foldl rowStep (ah, 0) = st at h4A h3A lenA
      refine wg_name 3 scRows.nd ?_
      refine wss_cons (ws_for (fun b => b = pA) (fun j σ H5 => ∃ g, σ = [some (.ref a), some (.ref l), some (.int (st.2 : Nat)), some (.ref m), g] ∧ ExB (fun b => b = pA) H4 H5 ∧ Tk H4 H5 ∧ H5 pA = some (lstN ((spots.take j).foldl (orAt st.2) st.1)))
        (mi_lst (R := RN) (H := onlyH H4 m) (me_var 3) (liN.mpr ⟨m, rfl, onlyAt.trans hm⟩)) onlyEx (fun b e => by rw [e]; exact ⟨onlyNo (Ne.symm mA), by rw [h4A]; exact fun z => nomatch z⟩) PassesOwn.never rfl
        (fun H5 x5 => ⟨g2, by rw [← hst]; rfl, ExB.of x5, tkEx x5, x5 _ _ h4A⟩) (fun j y σ H5 H6 hj ⟨g', e', b5, t5, h5A⟩ x6 ⟨n, hn', r'⟩ => ?_) fun σ H5 ⟨g', e', b5, t5, h5A⟩ => ?_)
      · subst e'
        have r'' : y = .int (n : Int) := r'
        subst r''
        have nl : n < ah.length := hsp n (List.mem_of_getElem? hn')
        have lenS : ((spots.take j).foldl (orAt st.2) st.1).length = st.1.length := orLen _ _ _
        have i6 : H6 a = some (.ins C dx (fs3 vt pA pB tl)) := x6 _ _ (b5 _ _ aA i4)
        have h6A := x6 _ _ h5A
        refine wg_name 4 scRows.nd (wss_one (ws_lset (j := n) (P := Is (.int ((((spots.take j).foldl (orAt st.2) st.1).getD n 0 ||| st.2 : Nat) : Int))) h6A (me_fld c.cls c.n2 (me_var 0) i6 rfl) (me_var 4)
          (me_or' ((me_ixL (R := RN) (d := ((spots.take j).foldl (orAt st.2) st.1).getD n 0) (me_is (me_fld c.cls c.n2 (me_var 0) i6 rfl) (liN.mpr ⟨pA, rfl, h6A⟩)) (me_var 4) (by rw [atNat]; exact getD_at (by omega))).imp fun v H x h => h) (me_var 2)) (by rw [List.length_map]; omega) fun v H7 x7 pv => ⟨⟨_, rfl, ?_, ?_, ?_⟩, ?_⟩))
        · exact (b5.trans (ExB.of (x6.trans x7))).trans (ExB.up rfl)
        · exact t5.trans ((tkEx (x6.trans x7)).trans (tkL (x7 _ _ h6A)))
        · have pv' : v = .int _ := pv
          rw [pv', mapSet, upd_same, foldTake _ _ _ _ hn']
          rfl
        · exact (ExB.of (x6.trans x7)).trans (ExB.up rfl)
      · subst e'
        rw [List.take_length] at h5A
        have hm5 : H5 m = some (lstN spots) := b5 _ _ mA hm
        refine wss_one (ws_set 2 scRows.nd (ME.we (me_or' (me_var 2) (me_callD spots G hr (fun s hs' => Nat.le_trans (Nat.le_of_lt (hsp s hs')) (by omega)) (ma_cons (me_is (me_var 3) (liN.mpr ⟨m, rfl, hm5⟩)) ma_nil))) fun z H7 x7 p => ⟨⟨some (.ref m), g', ?_, ?_, ?_, ?_⟩, ?_⟩))
        · have p' : z = .int _ := p
          rw [p', foldTake _ _ _ _ hn, hst]
          rfl
        · exact (b3.trans (ExB.of x4)).trans (b5.trans (ExB.of x7))
        · exact (t3.trans (tkEx x4)).trans (t5.trans (tkEx x7))
        · rw [foldTake _ _ _ _ hn, hst]
          exact x7 _ _ h5A
        · exact (ExB.of x4).trans (b5.trans (ExB.of x7))
    · subst e
      rw [List.take_length] at h3A
      exact wss_nil (q H3 b3 t3 h3A)
end
end Wk
set_option Elab.async false
set_option linter.all false
set_option maxRecDepth 100000
set_option maxHeartbeats 4000000
/-! Tables, plainly. -/
namespace Wk
open PySem PySem.Spec PyProof.Rows L2
/-! ### tables, plainly -/
section
variable {κ β : Type} [DecidableEq κ]
theorem lkxSome {ds : List (κ × β)} {k : κ} : (lkx ds k).isSome = decide (k ∈ ds.map (·.1)) := by
  induction ds with
  | nil => rfl
  | cons d ds ih =>
    rw [lkxCons, List.map_cons]
    by_cases h : d.1 = k
    · rw [if_pos h]
      simp [h]
    · rw [if_neg h, ih]
      have h' : ¬ k = d.1 := fun e => h e.symm
      simp [h']
theorem setDKeys (k : κ) (b : β) (ds : List (κ × β)) : (ds.map (setD k b)).map (·.1) = ds.map (·.1) := by
  rw [List.map_map]
  refine List.map_congr_left fun d _ => ?_
  show (setD k b d).1 = d.1
  unfold setD
  by_cases h : d.1 = k
  · rw [if_pos h]
  · rw [if_neg h]
theorem putxKeys (ds : List (κ × β)) (k : κ) (b : β) : (putx ds k b).map (·.1) = if k ∈ ds.map (·.1) then ds.map (·.1) else ds.map (·.1) ++ [k] := by
  unfold putx
  rw [lkxSome]
  by_cases h : k ∈ ds.map (·.1)
  · rw [decide_eq_true h, if_pos rfl, if_pos h, setDKeys]
  · rw [decide_eq_false h, if_neg (by decide), if_neg h, List.map_append]
    rfl
theorem putxMem {ds : List (κ × β)} {k : κ} {b : β} {z : κ} : z ∈ (putx ds k b).map (·.1) ↔ z ∈ ds.map (·.1) ∨ z = k := by
  rw [putxKeys]
  by_cases h : k ∈ ds.map (·.1)
  · rw [if_pos h]
    exact ⟨.inl, fun e => e.elim id fun e => by rw [e]; exact h⟩
  · rw [if_neg h, List.mem_append, List.mem_singleton]
theorem putxNd {ds : List (κ × β)} {k : κ} {b : β} (n : (ds.map (·.1)).Nodup) : ((putx ds k b).map (·.1)).Nodup := by
  rw [putxKeys]
  by_cases h : k ∈ ds.map (·.1)
  · rw [if_pos h]
    exact n
  · rw [if_neg h]
    refine List.nodup_append.mpr ⟨n, by simp, fun a ha b hb e => ?_⟩
    rw [List.mem_singleton.mp hb] at e
    rw [e] at ha
    exact h ha
end
def putS (st : State) (acc : Tbl) (s : Nat) : Tbl := putx acc (go st s) 0
def putAll (d : FD) (acc : Tbl) (st : State) : Tbl := (nexts d st).foldl (putS st) acc
def levelStep (d : FD) (t : Tbl) : Tbl := (t.map (·.1)).foldl (putAll d) []
def lvl (d : FD) : Nat → Tbl
  | 0 => [((0, none), 0)]
  | k + 1 => levelStep d (lvl d k)
/-- bits below n, the last one among them -/
def KeyOk (n : Nat) (z : State) : Prop := ∃ s, z.2 = some s ∧ s < n ∧ z.1 < 2 ^ n ∧ z.1.testBit s = true
structure TblOk (n : Nat) (t : Tbl) : Prop where
  nd : (t.map (·.1)).Nodup
  key : ∀ z ∈ t.map (·.1), KeyOk n z
theorem TblOk.nil {n : Nat} : TblOk n [] := ⟨List.nodup_nil, fun z h => nomatch h⟩
theorem goOk {n s : Nat} {st : State} (hs : s < n) (hb : st.1 < 2 ^ n) : KeyOk n (go st s) := by
  refine ⟨s, rfl, hs, ?_, ?_⟩
  · exact Nat.or_lt_two_pow hb (Nat.pow_lt_pow_right (by decide) hs)
  · show (st.1 ||| 2 ^ s).testBit s = true
    rw [Nat.testBit_or, Nat.testBit_two_pow_self, Bool.or_true]
theorem TblOk.put {n s : Nat} {t : Tbl} {st : State} (h : TblOk n t) (hs : s < n) (hb : st.1 < 2 ^ n) : TblOk n (putS st t s) :=
  ⟨putxNd h.nd, fun z hz => (putxMem.mp hz).elim (h.key z) fun e => by rw [e]; exact goOk hs hb⟩
theorem TblOk.puts {n : Nat} {st : State} (hb : st.1 < 2 ^ n) (ss : List Nat) : ∀ t : Tbl, TblOk n t → (∀ s ∈ ss, s < n) → TblOk n (ss.foldl (putS st) t) := by
  induction ss with
  | nil => exact fun _ h _ => h
  | cons s ss ih => exact fun t h hs => ih _ (h.put (hs s List.mem_cons_self) hb) fun z hz => hs z (List.mem_cons_of_mem _ hz)
theorem TblOk.all {d : FD} (ks : List State) : ∀ t : Tbl, TblOk d.th.length t → (∀ z ∈ ks, z.1 < 2 ^ d.th.length) → TblOk d.th.length (ks.foldl (putAll d) t) := by
  induction ks with
  | nil => exact fun _ h _ => h
  | cons z ks ih => exact fun t h hk => ih _ (TblOk.puts (hk z List.mem_cons_self) _ _ h fun s hs => nextsLt hs) fun y hy => hk y (List.mem_cons_of_mem _ hy)
theorem lookNo {vt : V} {pA pB : Addr} {tl : List (Str × V)} {m : Str} (h : tl = [] ∨ ∃ u : V, tl = [(("levels" : Str), u)]) (n : [(("threads" : Str)), "ahead", "beside", "levels"].contains m = false) : (fs3 vt pA pB tl).lookup m = none := by
  have n' : (m == "threads") = false ∧ (m == "ahead") = false ∧ (m == "beside") = false ∧ (m == "levels") = false := by
    simp only [List.contains_cons, Bool.or_eq_false_iff] at n
    exact ⟨n.1, n.2.1, n.2.2.1, n.2.2.2.1⟩
  obtain ⟨n1, n2, n3, n4⟩ := n'
  rcases h with e | ⟨u, e⟩
  · subst e
    simp only [List.lookup, n1, n2, n3]
  · subst e
    simp only [List.lookup, n1, n2, n3, n4]
theorem lvlBits (d : FD) : ∀ k, ∀ z ∈ (lvl d k).map (·.1), z.1 < 2 ^ d.th.length
  | 0, z, hz => by
    have e : z = (0, none) := by simpa [lvl] using hz
    rw [e]
    exact Nat.two_pow_pos _
  | k + 1, z, hz => by
    obtain ⟨s, _, _, h, _⟩ := (TblOk.all (d := d) _ _ TblOk.nil (lvlBits d k)).key z hz
    exact h
theorem lvlOk (d : FD) (k : Nat) : TblOk d.th.length (lvl d (k + 1)) := TblOk.all _ _ TblOk.nil (lvlBits d k)
theorem lvlLast (d : FD) : ∀ k, ∀ z ∈ (lvl d k).map (·.1), LastOk d z
  | 0, z, hz => by
    have e : z = (0, none) := by simpa [lvl] using hz
    rw [e]
    exact fun l h => nomatch h
  | k + 1, z, hz => by
    obtain ⟨s, e, h, _⟩ := (lvlOk d k).key z hz
    intro l hl
    rw [e] at hl
    cases hl
    exact h
/-- all there may be -/
def univ7 : List State := ((List.range 128).flatMap fun b => (List.range 7).map fun s => ((b, some s) : State)).filter fun z => match z.2 with
  | none => false
  | some s => z.1.testBit s
theorem univLen : univ7.length = 448 := by decide +kernel
theorem subLen {α : Type} [DecidableEq α] : ∀ {l m : List α}, l.Nodup → (∀ x ∈ l, x ∈ m) → l.length ≤ m.length
  | [], _, _, _ => Nat.zero_le _
  | x :: l, m, n, h => by
    have hx := h x List.mem_cons_self
    have h1 := subLen (l := l) (m := m.erase x) (List.nodup_cons.mp n).2 fun y hy => (List.mem_erase_of_ne (fun e => by subst e; exact (List.nodup_cons.mp n).1 hy)).mpr (h y (List.mem_cons_of_mem _ hy))
    have h2 := List.length_erase_of_mem hx
    have h3 := List.length_pos_of_mem hx
    rw [List.length_cons]
    omega
theorem TblOk.len {n : Nat} {t : Tbl} (h : TblOk n t) (hn : n ≤ 7) : t.length ≤ 448 := by
  rw [← univLen, ← List.length_map (f := fun d : State × Nat => d.1)]
  refine subLen h.nd fun z hz => ?_
  obtain ⟨s, e, hs, hb, ht⟩ := h.key z hz
  have hb' : z.1 < 128 := Nat.lt_of_lt_of_le hb (by
    have : 2 ^ n ≤ 2 ^ 7 := Nat.pow_le_pow_right (by decide) hn
    exact this)
  obtain ⟨b, l⟩ := z
  have e' : l = some s := e
  subst e'
  unfold univ7
  refine List.mem_filter.mpr ⟨List.mem_flatMap.mpr ⟨b, List.mem_range.mpr hb', List.mem_map.mpr ⟨s, List.mem_range.mpr (by omega), rfl⟩⟩, ht⟩
end Wk
set_option Elab.async false
set_option linter.all false
set_option maxRecDepth 100000
set_option maxHeartbeats 4000000
/-! The class Fitting: begun. -/
namespace Wk
open PySem PySem.Spec PyProof.Rows L2
section
variable {P : Program} {w : World} {K : PySem.W.Frag} {mg : Str → Option Value} {base : Heap} {C : Addr}
def tblsOf (d : FD) (k : Nat) : List Tbl := (List.range k).map (lvl d)
theorem tblsSucc (d : FD) (k : Nat) : tblsOf d (k + 1) = tblsOf d k ++ [lvl d k] := by
  unfold tblsOf
  rw [List.range_succ, List.map_append]
  rfl
def manyOf (d : FD) (k : Nat) : Nat := ((List.range k).map fun i => (lvl d (i + 1)).length).sum
theorem manySucc (d : FD) (k : Nat) : manyOf d (k + 1) = manyOf d k + (lvl d (k + 1)).length := by
  unfold manyOf
  rw [List.range_succ, List.map_append, List.sum_append]
  simp
theorem manyLe {d : FD} (h : d.th.length ≤ 7) (k : Nat) : manyOf d k ≤ 448 * k := by
  induction k with
  | zero => exact Nat.le_refl _
  | succ k ih =>
    rw [manySucc]
    have := (lvlOk d k).len h
    omega
/-- a list of unlike things -/
def LiU {α : Type} (R : Rp α) : Rp (List α) := fun ds v H => ∃ (a : Addr) (xs : List V), v = .ref a ∧ H a = some (.lst xs) ∧ Paired (fun x d => R d x H) xs ds ∧ xs.Nodup
theorem LiU.li {α : Type} {R : Rp α} {ds : List α} {v : V} {H : Hp} (h : LiU R ds v H) : Li R ds v H := let ⟨a, xs, h1, h2, h3, _⟩ := h; ⟨a, xs, h1, h2, h3⟩
def NewP (R : Pv) (H : Hp) : Pv := fun v H' => R v H' ∧ ∃ p, v = .ref p ∧ H p = none
instance {R : Pv} [m : Mo R] {H : Hp} : Mo (NewP R H) := ⟨fun x ⟨a, b⟩ => ⟨m.mo x a, b⟩⟩
theorem MN.new {X : Cx} {e : Expr} {σ : L2.St} {H : Hp} {P : Pv} (h : MN X e σ H P) : ME X e σ H (NewP P H) := fun H1 x1 Q q => h H1 x1 Q fun p H2 np x2 r => q _ H2 x2 ⟨r, p, rfl, Evl.fresh_back x1 np⟩
/-- a new list of new, unlike tables -/
def RBeg (P : Program) (w : World) (d : FD) (H : Hp) : Pv := fun v H' => ∃ (pL : Addr) (cs : List V), v = .ref pL ∧ H pL = none ∧ H' pL = some (.lst cs) ∧ Paired (fun x t => RT P w t x H') cs (tblsOf d (d.th.length + 1)) ∧ cs.Nodup ∧ ∀ x ∈ cs, ∃ c, x = .ref c ∧ H c = none
instance {d : FD} {H : Hp} : Mo (RBeg P w d H) := ⟨fun x ⟨pL, cs, h1, h2, h3, h4, h5⟩ => ⟨pL, cs, h1, h2, x _ _ h3, pImp (fun _ _ r => MoR.mo (R := RT P w) x r) h4, h5⟩⟩
def spBegun (C : Addr) (P : Program) (w : World) : Sp := fun vs H Q _ => ∃ (d : FD) (v : V), vs = [v] ∧ RF C d v H ∧ GoodF d ∧ d.th.length ≤ 7 ∧ ∀ v H', Ex H H' → RBeg P w d H v H' → Q v H'
abbrev nBegun : List Str := ["self", "levels", "many", "size", "found", "bits", "last", "spot"]
theorem scBegun : FnScope nBegun ["self"] (defScope sFittingBegun) := ⟨rfl, rfl, rfl, by decide +kernel, rfl, by decide +kernel, by decide +kernel⟩
theorem atNeg {α : Type} (ds : List α) (x : α) : atI (ds ++ [x]) (-1) = some x := by
  unfold atI ixN
  have h1 : ¬ (0 : Int) ≤ -1 := by decide
  have h2 : -((ds ++ [x]).length : Int) ≤ -1 := by
    rw [List.length_append]
    simp
    omega
  rw [if_neg h1, if_pos h2]
  have h3 : (-1 + ((ds ++ [x]).length : Int)).toNat = ds.length := by
    rw [List.length_append]
    simp
    omega
  show (ds ++ [x])[(-1 + ((ds ++ [x]).length : Int)).toNat]? = some x
  rw [h3]
  simp
theorem starD {ks : List (Option Expr)} {vs rest : List Expr} {p : Pos} {env : Env} : starEach (.Dict ks vs p :: rest) env = (false, eval (.Dict ks vs p) env) :: starEach rest env := by
  generalize rest = r
  rfl
/-- name = [e], e a new thing -/
theorem ws_one1 {X : Cx} {D : Ends} {σ : L2.St} {H : Hp} {P : Pv} [Mo P] {e : Expr} {p5 px p6 : Pos} {x : Str} (i : Nat) (hN : X.N.Nodup) (he : MN X e σ H P) (hs : starEach [e] X.env = (false, eval e X.env) :: starEach [] X.env)
    (next : ∀ pL H1, H pL = none → Ex H H1 → LiP [P] (.ref pL) H1 → D.nx (σ.set i (some (.ref pL))) H1)
    (hi : X.N[i]? = some x := by rfl) (hx : Loc X.env.scope x := by first | exact Or.inl rfl | exact Or.inr rfl)
    (hsw : ∀ e, swapsWith (.List [e] p5) (some (.Name x px)) p6.line X.env = pure false := by intro _; rfl) (hf : X.fn x = true ∨ X.env.scope.names.lookup x = some .local := by first | exact .inl rfl | exact .inr rfl) :
    WS X (.Assign [.Name x px] (.List [e] p5) p6) D σ H :=
  ws_set i hN ((mn_lst (ma_cons he.me ma_nil hs) (moCons moNil) (by simp)).we next) hi hx (hsw e) hf
theorem mnSt0 {X : Cx} {n j1 j2 j3 k : Nat} {σ : L2.St} {H : Hp} {p1 p2 p3 p4 pos : Pos} (hr : Room n X.A) (hs : starEach [.Constant (.int 0) j1 p1, .Constant .none j2 p2] X.env = (false, eval (.Constant (.int 0) j1 p1) X.env) :: starEach [.Constant .none j2 p2] X.env) (hs2 : starEach [.Constant .none j2 p2] X.env = (false, eval (.Constant .none j2 p2) X.env) :: starEach [] X.env) :
    MN X (.Dict [some (.Tuple [.Constant (.int 0) j1 p1, .Constant .none j2 p2] k p3)] [.Constant (.int 0) j3 p4] pos) σ H (RT X.prog X.w [((0, none), 0)]) :=
  @mn_x1 X (.Tuple [.Constant (.int 0) j1 p1, .Constant .none j2 p2] k p3) (.Constant (.int 0) j3 p4) σ H pos State Nat _ encSt RSt RN ((0, none) : State) (0 : Nat) n _ _ kSt hr (mtSt (st := ((0, none) : State)) me_int me_non hs hs2).me (me_is me_int (show RN 0 (.int 0) H from rfl))
theorem hBegun (B : Bl mg) (c : FC K C) (D : DfM K C "begun" "Fitting.begun" sFittingBegun) (G : HasM P w K mg base CX0 C "next_spots" 1 ["self", "bits", "last"] (spNext C)) (cm : ∃ t, mg "MOST_BEGINNINGS" = some (.int 5000 t)) : HasM P w K mg base CX0 C "begun" 2 ["self"] (spBegun C P w) :=
  .mk' D scBegun (fun _ _ _ _ _ _ us hl => match us, hl with | [_], _ => rfl) (fun vs H Q E ⟨_, _, h, _⟩ => by rw [h]; rfl) fun f cdv A outer s H vs Q E hr h => by
    obtain ⟨d, v, rfl, h1, good, h7, q⟩ := h
    have hf := h1
    obtain ⟨a, dx, tl, vt, pA, pB, rfl, hi, htl, ht, hA, hB⟩ := h1
    -- levels = [{(0, None): 0}]
    refine wss_cons ?_
    have z0 : ∀ (e : Expr) (p1 p2 : Pos) (D : Ends) (τ : L2.St), WE (cx0 P w K mg base nBegun "Fitting.begun" sFittingBegun f cdv A outer s H E) e τ H (fun v H1 => D.nx (τ.set 1 (some v)) H1) → (swapsWith e (some (.Name "levels" p1)) p2.line (cx0 P w K mg base nBegun "Fitting.begun" sFittingBegun f cdv A outer s H E).env = pure false) → WS (cx0 P w K mg base nBegun "Fitting.begun" sFittingBegun f cdv A outer s H E) (.Assign [.Name "levels" p1] e p2) D τ H := fun e p1 p2 D τ h hs => ws_set 1 scBegun.nd h rfl (Or.inl rfl) hs
    refine z0 _ _ _ _ _ ?_ rfl
    refine MN.we (P := LiP [NewP (RT P w [((0, none), 0)]) H]) (by
      refine mn_lst (ma_cons (MN.new ?_) ma_nil starD) (moCons moNil) (by simp)
      exact mnSt0 hr rfl rfl) (fun pL H1 nL x1 hl => ?_)
    obtain ⟨pL', cs0, e, hL, hp0⟩ := hl
    cases e
    obtain ⟨x0, rfl, hx0⟩ := p1 hp0
    have nd0 : [x0].Nodup := by simp
    have nw0 : ∀ x ∈ [x0], ∃ c, x = V.ref c ∧ H c = none := fun x hx => by
      rw [List.mem_singleton.mp hx]
      exact hx0.2
    -- many = 0
    refine wss_cons (ws_set 2 scBegun.nd (ME.we me_int fun z H2 x2 p => ?_))
    have p' : z = .int ((manyOf d 0 : Nat) : Int) := p
    subst p'
    have x12 := x1.trans x2
    -- for size in range(len(self.threads))
    refine wss_cons (ws_for (· = pL) (fun i σ H3 => ∃ g3 g4 g5 g6 g7 cs, σ = [some (.ref a), some (.ref pL), some (.int ((manyOf d i : Nat) : Int)), g3, g4, g5, g6, g7] ∧ Ex H H3 ∧ H3 pL = some (.lst cs) ∧ Paired (fun x t => RT P w t x H3) cs (tblsOf d (i + 1)) ∧ cs.Nodup ∧ ∀ x ∈ cs, ∃ c, x = V.ref c ∧ H c = none)
      (mi_range (H := H) B.range (me_lenT B (me_is (me_fld c.cls c.n1 (me_var 0) hi rfl) ht)) (by omega) (by omega)) x12 (fun b e => by rw [e]; exact ⟨nL, by rw [x2 _ _ hL]; exact fun z => nomatch z⟩) PassesOwn.never rfl
      (fun H3 x3 => ⟨none, none, none, none, none, [x0], rfl, x12.trans x3, (x2.trans x3) _ _ hL, .cons (MoR.mo (R := RT P w) (x2.trans x3) hx0.1) .nil, nd0, nw0⟩) (fun i u σ H3 H4 hi' ⟨g3, g4, g5, g6, g7, cs, e, b3, h3L, hp, hnd, hnw⟩ x4 hu => ?_) fun σ H3 ⟨g3, g4, g5, g6, g7, cs, e, b3, h3L, hp, hnd, hnw⟩ => ?_)
    · subst e
      subst hu
      have hin : i < d.th.length := by omega
      refine wg_name 3 scBegun.nd ?_
      have b4 := b3.trans x4
      have h4L := x4 _ _ h3L
      -- found = {}
      refine wss_cons (ws_set 4 scBegun.nd (MN.we (mn_x0 (enc := encSt) (KR := RSt) (S := RN)) fun pF H5 nF x5 hF => ?_))
      -- the last level
      obtain ⟨cs', cl, ecs, hcl, hps⟩ : ∃ (cs' : List V) (cl : V), cs = cs' ++ [cl] ∧ RT P w (lvl d i) cl H3 ∧ True := by
        rw [tblsSucc] at hp
        have : ∀ {xs : List V} {ts : List Tbl} {t : Tbl}, Paired (fun x t => RT P w t x H3) xs (ts ++ [t]) → ∃ (cs' : List V) (cl : V), xs = cs' ++ [cl] ∧ RT P w t cl H3 := by
          intro xs ts t h
          induction ts generalizing xs with
          | nil =>
            cases h with
            | cons r t' =>
              cases t'
              exact ⟨[], _, rfl, r⟩
          | cons y ts ih =>
            cases h with
            | cons r t' =>
              obtain ⟨cs', cl, e, r'⟩ := ih t'
              exact ⟨_ :: cs', cl, by rw [e]; rfl, r'⟩
        obtain ⟨cs', cl, e, r⟩ := this hp
        exact ⟨cs', cl, e, r, trivial⟩
      have hcl4 := MoR.mo (R := RT P w) x4 hcl
      have lastAt : atI cs (-1) = some cl := by rw [ecs]; exact atNeg _ _
      have i4 := b4 _ _ hi
      have hf4 := MoR.mo (R := RF C) b4 hf
      -- for bits, last in levels[-1]
      refine wss_cons (ws_for (· = pF) (fun j σ H6 => ∃ g5 g6 g7, σ = [some (.ref a), some (.ref pL), some (.int ((manyOf d i : Nat) : Int)), some (.int ((i : Nat) : Int)), some (.ref pF), g5, g6, g7] ∧ ExB (· = pF) H5 H6 ∧ Ex H4 H6 ∧ RT P w ((((lvl d i).map (·.1)).take j).foldl (putAll d) []) (.ref pF) H6)
        (mi_xkeys (enc := encSt) (KR := RSt) (S := RN) (H := H4) (me_ixLV (me_var 1) (me_un (g := fun i => .int (-i)) un_neg me_int) h4L lastAt) hcl4) x5 (fun b e => by rw [e]; exact ⟨nF, by obtain ⟨p', o, es, e', h', _⟩ := hF; cases e'; rw [h']; exact fun z => nomatch z⟩) PassesOwn.never rfl
        (fun H6 x6 => ⟨g5, g6, g7, rfl, ExB.of x6, x5.trans x6, MoR.mo (R := RT P w) x6 hF⟩) (fun j u σ H6 H7 hj ⟨g5, g6, g7, e, b6, e6, hacc⟩ x7 ⟨st, hst, r⟩ => ?_) fun σ H6 ⟨g5, g6, g7, e, b6, e6, hacc⟩ => ?_)
      · subst e
        obtain ⟨T, rfl, hT⟩ := r
        refine wg_tup rfl hT (wgs_cons (wg_name 5 scBegun.nd (wgs_cons (wg_name 6 scBegun.nd (wgs_nil ?_)))))
        have stm := List.mem_of_getElem? hst
        have stl := lvlLast d i st stm
        have stb := lvlBits d i st stm
        have acOk : TblOk d.th.length ((((lvl d i).map (·.1)).take j).foldl (putAll d) []) := TblOk.all _ _ TblOk.nil fun z hz => lvlBits d i z (List.mem_of_mem_take hz)
        generalize hacs : (((lvl d i).map (·.1)).take j).foldl (putAll d) [] = acc at hacc acOk
        have hacc7 := MoR.mo (R := RT P w) x7 hacc
        have e7 := e6.trans x7
        -- for spot in self.next_spots(bits, last)
        refine wss_one (ws_for (· = pF) (fun k σ H8 => ∃ g7, σ = [some (.ref a), some (.ref pL), some (.int ((manyOf d i : Nat) : Int)), some (.int ((i : Nat) : Int)), some (.ref pF), some (.int (st.1 : Int)), some (lastV st.2), g7] ∧ ExB (· = pF) H7 H8 ∧ Ex H4 H8 ∧ RT P w (((nexts d st).take k).foldl (putS st) acc) (.ref pF) H8)
          (mi_newN (ds := nexts d st) (H := H4) (mn_methD (⟨d, st⟩ : DN) (P0 := RF C d) c.cls G (hr.mono (by decide)) ⟨good, stl⟩ (me_var 0) i4 (lookNo htl (by decide)) hf4 (ma_cons (me_var 5) (ma_cons (me_var 6) ma_nil)))) e7 (fun b e => by rw [e]; exact ⟨nF, by obtain ⟨p', o, es, e', h', _⟩ := hacc7; cases e'; rw [h']; exact fun z => nomatch z⟩) PassesOwn.never rfl
          (fun H8 x8 => ⟨g7, rfl, ExB.of x8, e7.trans x8, MoR.mo (R := RT P w) x8 hacc7⟩) (fun k y σ H8 H9 hk ⟨g7, e, b8, e8, hac8⟩ x9 ⟨n, hn, r⟩ => ?_) fun σ H8 ⟨g7, e, b8, e8, hac8⟩ => ?_)
        · subst e
          have r' : y = .int (n : Int) := r
          subst r'
          have nm : n ∈ nexts d st := List.mem_of_getElem? hn
          have nlt := nextsLt nm
          have lenOk : ((((nexts d st).take k).foldl (putS st) acc)).length ≤ 448 := (TblOk.puts stb _ _ acOk fun s hs => nextsLt (List.mem_of_mem_take hs)).len h7
          refine wg_name 7 scBegun.nd (wss_one (ws_xput (S := RN) (d := 0) (k := go st n) kSt hr (MoR.mo (R := RT P w) x9 hac8) (me_var 4) (mtSt (st := go st n) (me_or' (me_var 5) (me_shl1 me_int (me_var 7) (by omega))) (me_var 7)).me (me_is me_int (show RN 0 (.int 0) H9 from rfl)) (by omega) fun H10 b10 t10 h10 => ⟨⟨_, rfl, ?_, ?_, ?_⟩, ?_⟩))
          · exact b8.trans ((ExB.of x9).trans b10)
          · exact ExB.off (D := (· = pF)) (e8.trans x9) b10 fun b e => by rw [e]; exact nF
          · rw [foldTake _ _ _ _ hn]
            exact h10
          · exact (ExB.of x9).trans b10
        · subst e
          have h8 : RT P w ((nexts d st).foldl (putS st) acc) (.ref pF) H8 := by
            have e : (nexts d st).take (nexts d st).length = nexts d st := List.take_length
            rw [← e]
            exact hac8
          refine ⟨⟨_, _, _, rfl, b6.trans ((ExB.of x7).trans b8), e8, ?_⟩, (ExB.of x7).trans b8⟩
          rw [foldTake _ _ _ _ hst, hacs]
          exact h8
      · subst e
        rw [List.take_length] at hacc
        have hlv : RT P w (lvl d (i + 1)) (.ref pF) H6 := hacc
        have lle := (lvlOk d i).len h7
        -- many = many + len(found)
        refine wss_cons (ws_set 2 scBegun.nd (ME.we (me_I0 op_add (me_var 2) (me_xlen (S := RN) kSt B (me_is (me_var 4) hlv))) fun z H7 x7 p => ?_))
        have p' : z = .int ((manyOf d (i + 1) : Nat) : Int) := by
          have p2 : z = .int (((manyOf d i : Nat) : Int) + ((lvl d (i + 1)).length : Nat)) := p
          rw [p2, manySucc]
          push_cast
          rfl
        subst p'
        have mle := manyLe h7 (i + 1)
        -- if many > MOST_BEGINNINGS
        refine wss_cons (ws_if (MT.wt (k := false) (MT.is (mt_cI op_gt (me_var 2) (me_gi cm)) (decide_eq_false (by omega))) fun H8 x8 => iteF (wss_nil ?_)))
        have x68 := x7.trans x8
        have h8L : H8 pL = some (.lst cs) := (e6.trans x68) _ _ h4L
        -- levels.append(found)
        refine wss_one (ws_expr (we_append h8L (me_var 1) (me_var 4) ?_ fun v H9 x9 e => ⟨⟨_, _, _, _, _, cs ++ [.ref pF], rfl, ?_, ?_, ?_, ?_, ?_⟩, ?_⟩))
        · have hl := pLen hp
          rw [hl]
          unfold tblsOf
          rw [List.length_map, List.length_range]
          omega
        · exact ExB.off (D := (· = pL)) (b4.trans (e6.trans (x68.trans x9))) (ExB.up rfl) fun b e => by rw [e]; exact nL
        · have e' : v = V.ref pF := e
          rw [e']
          exact upd_same
        · have up : ∀ {t : Tbl} {x : V}, RT P w t x H9 → RT P w t x (upd H9 pL (.lst (cs ++ [v]))) := fun {t x} ⟨cc, o, es, e1, e2, e3, e4⟩ => by
            have h9L := x9 _ _ h8L
            refine ⟨cc, o, es, e1, ?_, e3, pImp (fun _ _ ⟨z1, z2, z3⟩ => ⟨z1, Im.im (R := RSt) (tkL h9L) z2, z3⟩) e4⟩
            rw [upd_ne (ne_of e2 h9L fun z => nomatch z)]
            exact e2
          rw [tblsSucc d (i + 1)]
          exact pApp (pImp (fun _ _ r => up (MoR.mo (R := RT P w) (x4.trans (e6.trans (x68.trans x9))) r)) hp) (.cons (up (MoR.mo (R := RT P w) (x68.trans x9) hlv)) .nil)
        · refine List.nodup_append.mpr ⟨hnd, by simp, fun x hx y hy e => ?_⟩
          rw [List.mem_singleton.mp hy] at e
          subst e
          have all : ∀ {xs : List V} {ts : List Tbl}, Paired (fun x t => RT P w t x H3) xs ts → V.ref pF ∈ xs → False := by
            intro xs ts h
            induction h with
            | nil => exact fun z => nomatch z
            | cons r t ih =>
              intro z
              rcases List.mem_cons.mp z with z | z
              · obtain ⟨c', o, es, e1, e2, _⟩ := r
                rw [← z] at e1
                cases e1
                have := x4 _ _ e2
                rw [nF] at this
                cases this
              · exact ih z
          exact all hp hx
        · intro x hx
          rcases List.mem_append.mp hx with hx | hx
          · exact hnw x hx
          · exact ⟨pF, List.mem_singleton.mp hx, Evl.fresh_back b4 nF⟩
        · exact (ExB.of (x4.trans (e6.trans (x68.trans x9)))).trans (ExB.up rfl)
    · subst e
      refine wss_one (ws_ret (ME.we (me_var 1) fun u H4 x4 e => ?_))
      have e' : u = V.ref pL := e
      rw [e']
      have e2 : ((d.th.length : Nat) : Int).toNat = d.th.length := by omega
      rw [e2] at hp
      exact q _ H4 (b3.trans x4) ⟨pL, cs, rfl, nL, x4 _ _ h3L, pImp (fun _ _ r => MoR.mo (R := RT P w) x4 r) hp, hnd, hnw⟩
end
end Wk
set_option Elab.async false
set_option linter.all false
set_option maxRecDepth 100000
set_option maxHeartbeats 4000000
/-! Counts, plainly. -/
namespace Wk
open PySem PySem.Spec PyProof.Rows L2
theorem lkxTrue {κ β : Type} [DecidableEq κ] {ds : List (κ × β)} {k : κ} (h : k ∈ ds.map (·.1)) : (lkx ds k).isSome = true := by
  rw [lkxSome]
  exact decide_eq_true h
def cnt (d : FD) : Nat → State → Nat
  | 0, _ => 1
  | m + 1, st => ((nexts d st).map fun s => cnt d m (go st s)).sum
def cntT (d : FD) (m : Nat) (t : Tbl) : Tbl := t.map fun e => (e.1, cnt d m e.1)
theorem cntKeys (d : FD) (m : Nat) (t : Tbl) : (cntT d m t).map (·.1) = t.map (·.1) := by
  unfold cntT
  rw [List.map_map]
  rfl
theorem lkxMap {t : Tbl} {f : State → Nat} {k : State} (h : k ∈ t.map (·.1)) : lkx (t.map fun e => (e.1, f e.1)) k = some (f k) := by
  induction t with
  | nil => cases h
  | cons e t ih =>
    rw [List.map_cons, lkxCons]
    by_cases he : e.1 = k
    · rw [if_pos he, he]
    · rw [if_neg he]
      rw [List.map_cons] at h
      exact ih ((List.mem_cons.mp h).resolve_left fun z => he z.symm)
theorem cntAt {d : FD} {m : Nat} {t : Tbl} {k : State} (h : k ∈ t.map (·.1)) : lkx (cntT d m t) k = some (cnt d m k) := lkxMap h
/-- some keys set -/
def setSome (f : State → Nat) (ks : List State) (t : Tbl) : Tbl := t.map fun e => if e.1 ∈ ks then (e.1, f e.1) else e
theorem setSomeKeys (f : State → Nat) (ks : List State) (t : Tbl) : (setSome f ks t).map (·.1) = t.map (·.1) := by
  unfold setSome
  rw [List.map_map]
  refine List.map_congr_left fun e _ => ?_
  show (if e.1 ∈ ks then (e.1, f e.1) else e).1 = e.1
  split
  · rfl
  · rfl
theorem setSomeNil (f : State → Nat) (t : Tbl) : setSome f [] t = t := by
  unfold setSome
  conv => rhs; rw [← List.map_id t]
  refine List.map_congr_left fun e _ => ?_
  rw [if_neg (by simp)]
  rfl
theorem setSomeAll (f : State → Nat) (t : Tbl) : setSome f (t.map (·.1)) t = t.map fun e => (e.1, f e.1) := by
  unfold setSome
  refine List.map_congr_left fun e he => ?_
  rw [if_pos (List.mem_map.mpr ⟨e, he, rfl⟩)]
theorem setSomeStep (f : State → Nat) (ks : List State) (k : State) (t : Tbl) (h : k ∈ t.map (·.1)) : putx (setSome f ks t) k (f k) = setSome f (ks ++ [k]) t := by
  have e0 : (lkx (setSome f ks t) k).isSome = true := by
    refine lkxTrue ?_
    rw [setSomeKeys]
    exact h
  unfold putx
  rw [if_pos e0]
  unfold setSome
  rw [List.map_map]
  refine List.map_congr_left fun e _ => ?_
  show setD k (f k) (if e.1 ∈ ks then (e.1, f e.1) else e) = if e.1 ∈ ks ++ [k] then (e.1, f e.1) else e
  by_cases h1 : e.1 ∈ ks
  · rw [if_pos h1, if_pos (List.mem_append_left _ h1)]
    unfold setD
    by_cases h2 : e.1 = k
    · rw [if_pos h2, h2]
    · rw [if_neg h2]
  · rw [if_neg h1]
    unfold setD
    by_cases h2 : e.1 = k
    · rw [if_pos h2, if_pos (List.mem_append_right _ (List.mem_singleton.mpr h2)), h2]
    · rw [if_neg h2, if_neg]
      intro z
      rcases List.mem_append.mp z with z | z
      · exact h1 z
      · exact h2 (List.mem_singleton.mp z)
/-- what follows a state is in the level behind -/
theorem putsMem {st : State} (ss : List Nat) : ∀ {t : Tbl} {z : State}, z ∈ (ss.foldl (putS st) t).map (·.1) ↔ z ∈ t.map (·.1) ∨ ∃ s ∈ ss, z = go st s := by
  induction ss with
  | nil =>
    intro t z
    simp
  | cons s ss ih =>
    intro t z
    rw [List.foldl_cons, ih]
    unfold putS
    rw [putxMem]
    constructor
    · rintro ((h | h) | ⟨u, hu, h⟩)
      · exact .inl h
      · exact .inr ⟨s, List.mem_cons_self, h⟩
      · exact .inr ⟨u, List.mem_cons_of_mem _ hu, h⟩
    · rintro (h | ⟨u, hu, h⟩)
      · exact .inl (.inl h)
      · rcases List.mem_cons.mp hu with e | e
        · rw [e] at h
          exact .inl (.inr h)
        · exact .inr ⟨u, e, h⟩
theorem allsMem {d : FD} (ks : List State) : ∀ {t : Tbl} {z : State}, z ∈ (ks.foldl (putAll d) t).map (·.1) ↔ z ∈ t.map (·.1) ∨ ∃ st ∈ ks, ∃ s ∈ nexts d st, z = go st s := by
  induction ks with
  | nil =>
    intro t z
    simp
  | cons k ks ih =>
    intro t z
    rw [List.foldl_cons, ih]
    unfold putAll
    rw [putsMem]
    constructor
    · rintro ((h | ⟨u, hu, h⟩) | ⟨u, hu, h⟩)
      · exact .inl h
      · exact .inr ⟨k, List.mem_cons_self, u, hu, h⟩
      · exact .inr ⟨u, List.mem_cons_of_mem _ hu, h⟩
    · rintro (h | ⟨u, hu, h⟩)
      · exact .inl (.inl h)
      · rcases List.mem_cons.mp hu with e | e
        · rw [e] at h
          exact .inl (.inr h)
        · exact .inr ⟨u, e, h⟩
theorem lvlMem {d : FD} {k : Nat} {z : State} : z ∈ (lvl d (k + 1)).map (·.1) ↔ ∃ st ∈ (lvl d k).map (·.1), ∃ s ∈ nexts d st, z = go st s := by
  show z ∈ (levelStep d (lvl d k)).map (·.1) ↔ _
  unfold levelStep
  rw [allsMem]
  simp
theorem lvlGo {d : FD} {k : Nat} {st : State} {s : Nat} (h : st ∈ (lvl d k).map (·.1)) (hs : s ∈ nexts d st) : go st s ∈ (lvl d (k + 1)).map (·.1) := lvlMem.mpr ⟨st, h, s, hs, rfl⟩
theorem lvlNd (d : FD) : ∀ k, ((lvl d k).map (·.1)).Nodup
  | 0 => by simp [lvl]
  | k + 1 => (lvlOk d k).nd
theorem lvlLen {d : FD} (h : d.th.length ≤ 7) : ∀ k, (lvl d k).length ≤ 448
  | 0 => by simp [lvl]
  | k + 1 => (lvlOk d k).len h
end Wk
set_option Elab.async false
set_option linter.all false
set_option maxRecDepth 100000
set_option maxHeartbeats 4000000
/-! The class Fitting: count_on. -/
namespace Wk
open PySem PySem.Spec PyProof.Rows L2
section
variable {X : Cx} {tg a b c : Expr} {σ : L2.St} {H : Hp} {pos p : Pos}
theorem mix_range3 {lo j k : Int} {n : Nat} (hm : X.mg "range" = none) (ha : ME X a σ H (Is (.int lo))) (hb : ME X b σ H (Is (.int j))) (hc : ME X c σ H (Is (.int k))) (ok : RgC lo j k n) (hg : Gl X "range" := by rfl)
    (h1 : starEach [a, b, c] X.env = (false, eval a X.env) :: starEach [b, c] X.env := by rfl) (h2 : starEach [b, c] X.env = (false, eval b X.env) :: starEach [c] X.env := by rfl) (h3 : starEach [c] X.env = (false, eval c X.env) :: starEach [] X.env := by rfl) (hpl : (backTo pos (starEach [b, c] X.env)).any (·.1) = false := by rfl) :
    MIX X tg (.Call (.Name "range" p) [a, b, c] [] pos) σ noHp H n fun i x _ => x = .int (lo + (i : Nat) * k) := fun Q q =>
  .of (pi_range3 hg hm (pa_cons pe_we (pa_cons pe_we (pa_cons pe_we pa_nil h3) h2) h1) h1 hpl) (ha H (exr H) _ fun u H2 x2 p => hb H2 x2 _ fun w H3 x3 p3 => hc H3 (x2.trans x3) _ fun z H4 x4 p4 => by
    have e : u = .int lo := p
    have e2 : w = .int j := p3
    have e3 : z = .int k := p4
    exact ⟨lo, j, k, n, by rw [e, e2, e3], ok, q _ H4 (fun _ => True) (x2.trans (x3.trans x4)) trivial (fun _ _ _ _ _ => trivial) ⟨fun i H3 g hi => hi, fun i H3 x H' g hi y => by
      obtain ⟨e1, y⟩ := y
      subst e1
      exact ⟨exr _, y⟩, fun i H3 g hi => hi⟩⟩)
end
section
variable {P : Program} {w : World} {K : PySem.W.Frag} {mg : Str → Option Value} {base : Heap} {C : Addr}
theorem dxKeep {κ β : Type} {enc : κ → NK} {KR : Rp κ} {S : Rp β} [m1 : Im KR] [m2 : Im S] {ds : List (κ × β)} {c : Addr} {D : Addr → Prop} {H H' : Hp} (h : Dx P w enc KR S ds (.ref c) H) (x : ExB D H H') (tk : Tk H H') (n : ¬ D c) : Dx P w enc KR S ds (.ref c) H' := by
  obtain ⟨c', o, es, e, h1, h2, h3⟩ := h
  cases e
  exact ⟨c, o, es, rfl, x _ _ n h1, h2, pImp (fun _ _ ⟨a, b, c⟩ => ⟨a, m1.im tk b, m2.im tk c⟩) h3⟩
/-- the tables of the levels -/
def Tabs (P : Program) (w : World) (as : List Addr) (T : Nat → Tbl) (H : Hp) : Prop := ∀ k c, as[k]? = some c → RT P w (T k) (.ref c) H
theorem Tabs.ex {as : List Addr} {T : Nat → Tbl} {H H' : Hp} (h : Tabs P w as T H) (x : Ex H H') : Tabs P w as T H' := fun k c hk => MoR.mo (R := RT P w) x (h k c hk)
theorem Tabs.at {as : List Addr} {T : Nat → Tbl} {H : Hp} (h : Tabs P w as T H) {b : Addr} (hb : b ∈ as) : ∃ o, H b = some (RawO b o) := by
  obtain ⟨k, hk⟩ := List.getElem?_of_mem hb
  obtain ⟨c', o, es, e, h1, _⟩ := h k b hk
  cases e
  exact ⟨o, h1⟩
theorem Tabs.off {as : List Addr} {T : Nat → Tbl} {H : Hp} (h : Tabs P w as T H) {b : Addr} {o : HO} (hb : H b = some o) (n : ∀ o', o ≠ RawO b o') : b ∉ as := fun z => by
  obtain ⟨o', h1⟩ := h.at z
  rw [hb] at h1
  cases h1
  exact n _ rfl
theorem Tabs.conv {as : List Addr} {T T' : Nat → Tbl} {H : Hp} (h : Tabs P w as T H) (e : ∀ k, k < as.length → T' k = T k) : Tabs P w as T' H := fun k c hk => by
  rw [e k (List.getElem?_eq_some_iff.mp hk).1]
  exact h k c hk
theorem Tabs.put {as : List Addr} {T T' : Nat → Tbl} {t : Tbl} {H H' : Hp} {k0 : Nat} {c0 : Addr} (h : Tabs P w as T H) (nd : as.Nodup) (hk : as[k0]? = some c0) (b : ExB (· = c0) H H') (tk : Tk H H') (ht : RT P w t (.ref c0) H') (e : T' k0 = t) (e2 : ∀ k, k ≠ k0 → T' k = T k) : Tabs P w as T' H' := fun k c hc => by
  by_cases hkk : k = k0
  · subst hkk
    rw [hk] at hc
    cases hc
    rw [e]
    exact ht
  · rw [e2 k hkk]
    refine dxKeep (h k c hc) b tk fun z => hkk ?_
    have z' : c = c0 := z
    subst z'
    obtain ⟨i1, e1⟩ := List.getElem?_eq_some_iff.mp hc
    obtain ⟨i2, e3⟩ := List.getElem?_eq_some_iff.mp hk
    exact (List.getElem_inj nd).mp (e1.trans e3.symm)
/-- a Fitting with its levels, seen by its parts -/
structure FS (C a dx : Addr) (vt : V) (pA pB pL : Addr) (as : List Addr) (d : FD) (H : Hp) : Prop where
  hi : H a = some (.ins C dx (fs3 vt pA pB [(("levels" : Str), V.ref pL)]))
  th : Tu RI d.th vt H
  hA : H pA = some (lstN d.ah)
  hB : H pB = some (lstN d.be)
  hL : H pL = some (.lst (as.map V.ref))
section
variable {a dx pA pB pL : Addr} {vt : V} {as : List Addr} {d : FD} {H H' : Hp}
theorem FS.f (h : FS C a dx vt pA pB pL as d H) : RF C d (.ref a) H := ⟨a, dx, _, vt, pA, pB, rfl, h.hi, .inr ⟨_, rfl⟩, h.th, h.hA, h.hB⟩
structure FO (a pA pB pL : Addr) (as : List Addr) : Prop where
  na : a ∉ as
  nA : pA ∉ as
  nB : pB ∉ as
  nL : pL ∉ as
theorem FS.off {T : Nat → Tbl} (h : FS C a dx vt pA pB pL as d H) (t : Tabs P w as T H) : FO a pA pB pL as := ⟨t.off h.hi fun _ z => (nomatch z), t.off h.hA fun _ z => (nomatch z), t.off h.hB fun _ z => (nomatch z), t.off h.hL fun _ z => (nomatch z)⟩
theorem FS.keep (h : FS C a dx vt pA pB pL as d H) (o : FO a pA pB pL as) (x : ExB (· ∈ as) H H') (tk : Tk H H') : FS C a dx vt pA pB pL as d H' :=
  ⟨x _ _ o.na h.hi, Im.im (R := Tu RI) tk h.th, x _ _ o.nA h.hA, x _ _ o.nB h.hB, x _ _ o.nL h.hL⟩
theorem FS.ex (h : FS C a dx vt pA pB pL as d H) (x : Ex H H') : FS C a dx vt pA pB pL as d H' :=
  ⟨x _ _ h.hi, MoR.mo (R := Tu RI) x h.th, x _ _ h.hA, x _ _ h.hB, x _ _ h.hL⟩
theorem atRef {k : Nat} {c : Addr} (h : as[k]? = some c) : atI (as.map V.ref) (k : Int) = some (.ref c) := by
  rw [atNat, List.getElem?_map, h]
  rfl
theorem atLast {n : Nat} {c : Addr} (hl : as.length = n + 1) (h : as[n]? = some c) : atI (as.map V.ref) (-1) = some (.ref c) := by
  unfold atI ixN
  have h1 : ¬ (0 : Int) ≤ -1 := by decide
  have h2 : -((as.map V.ref).length : Int) ≤ -1 := by
    rw [List.length_map]
    omega
  rw [if_neg h1, if_pos h2]
  have h3 : (-1 + ((as.map V.ref).length : Int)).toNat = n := by
    rw [List.length_map]
    omega
  show (as.map V.ref)[(-1 + ((as.map V.ref).length : Int)).toNat]? = _
  rw [h3, List.getElem?_map, h]
  rfl
end
def tabs2 (d : FD) (i : Nat) : Nat → Tbl := fun k => if d.th.length - i ≤ k then cntT d (d.th.length - k) (lvl d k) else lvl d k
def spCount (C : Addr) (P : Program) (w : World) : Sp := fun vs H Q _ => ∃ (a dx : Addr) (vt : V) (pA pB pL : Addr) (as : List Addr) (d : FD), vs = [.ref a] ∧ FS C a dx vt pA pB pL as d H ∧ GoodF d ∧ d.th.length ≤ 7 ∧ as.length = d.th.length + 1 ∧ as.Nodup ∧ Tabs P w as (lvl d) H ∧
  ∀ H', ExB (· ∈ as) H H' → Tk H H' → Tabs P w as (fun k => cntT d (d.th.length - k) (lvl d k)) H' → Q .non H'
abbrev nCount : List Str := ["self", "state", "size", "bits", "last", "some", "spot"]
theorem scCount : FnScope nCount ["self"] (defScope sFittingCountOn) := ⟨rfl, rfl, rfl, by decide +kernel, rfl, by decide +kernel, by decide +kernel⟩
theorem hCount (B : Bl mg) (c : FC K C) (D : DfM K C "count_on" "Fitting.count_on" sFittingCountOn) (G : HasM P w K mg base CX0 C "next_spots" 1 ["self", "bits", "last"] (spNext C)) : HasM P w K mg base CX0 C "count_on" 2 ["self"] (spCount C P w) :=
  .mk' D scCount (fun _ _ _ _ _ _ us hl => match us, hl with | [_], _ => rfl) (fun vs H Q E ⟨_, _, _, _, _, _, _, _, h, _⟩ => by rw [h]; rfl) fun f cdv A outer s H vs Q E hr h => by
    obtain ⟨a, dx, vt, pA, pB, pL, as, d, rfl, F, good, h7, hlen, hnd, hT, q⟩ := h
    have O := F.off hT
    obtain ⟨cN, hcN⟩ : ∃ cN, as[d.th.length]? = some cN := ⟨_, List.getElem?_eq_getElem (by omega)⟩
    have mN : cN ∈ as := List.mem_of_getElem? hcN
    have lv := lvlLen h7
    -- for state in list(self.levels[-1])
    refine wss_cons (ws_forX (fun H2 j σ H3 => ∃ g1 g2 g3 g4 g5 g6, σ = [some (.ref a), g1, g2, g3, g4, g5, g6] ∧ ExB (· ∈ as) H H3 ∧ Tk H H3 ∧ Tabs P w as (fun k => if k = d.th.length then setSome (cnt d 0) (((lvl d d.th.length).map (·.1)).take j) (lvl d d.th.length) else lvl d k) H3)
      (mix_new (mn_xlist (enc := encSt) (KR := RSt) (S := RN) B rfl (me_is (me_ixLV (me_fld c.cls c.n4 (me_var 0) F.hi rfl) (me_un (g := fun i => .int (-i)) un_neg me_int) F.hL (atLast hlen hcN)) (hT _ _ hcN)))) PassesOwn.never rfl
      (fun H2 x2 => ⟨none, none, none, none, none, none, rfl, ExB.of x2, tkEx x2, ((hT.ex x2).conv fun k _ => by
        split
        · next e => rw [e, List.take_zero, setSomeNil]
        · rfl)⟩) (fun H2 i x σ' H3 H4 x2 hi ⟨g1, g2, g3, g4, g5, g6, e, b3, t3, hT3⟩ x4 ⟨st, hst, r⟩ => ?_) fun H2 σ' H3 x2 ⟨g1, g2, g3, g4, g5, g6, e, b3, t3, hT3⟩ => ?_)
    · subst e
      have F4 := (F.keep O b3 t3).ex x4
      have T4 := hT3.ex x4
      have hN4 := T4 _ _ hcN
      simp only [↓reduceIte] at hN4
      have stm : st ∈ (lvl d d.th.length).map (·.1) := List.mem_of_getElem? hst
      refine wg_name 1 scCount.nd (wss_one (ws_xput (S := RN) (d := cnt d 0 st) (k := st) kSt hr hN4 (me_ixLV (me_fld c.cls c.n4 (me_var 0) F4.hi rfl) (me_un (g := fun i => .int (-i)) un_neg me_int) F4.hL (atLast hlen hcN)) (me_is (me_var 1) r) (me_is me_int (show RN 1 (.int 1) H4 from rfl)) (by
        have e1 := congrArg List.length (setSomeKeys (cnt d 0) (((lvl d d.th.length).map (·.1)).take i) (lvl d d.th.length))
        rw [List.length_map, List.length_map] at e1
        have := lv d.th.length
        omega) fun H5 b5 t5 h5 => ?_))
      have bs : ExB (· ∈ as) H4 H5 := b5.sub fun b e => by rw [e]; exact mN
      refine ⟨⟨_, _, _, _, _, _, rfl, b3.trans ((ExB.of x4).trans bs), t3.trans ((tkEx x4).trans t5), T4.put hnd hcN b5 t5 h5 ?_ fun k hk => ?_⟩, (ExB.of x4).trans (bs.sub fun b hb => offNo (.inl ?_)), (tkEx x4).trans t5⟩
      · simp only [↓reduceIte]
        rw [List.take_add_one, hst, setSomeStep _ _ _ _ stm]
        rfl
      · simp only [if_neg hk]
      · obtain ⟨o, ho⟩ := hT.at hb
        rw [ho]
        exact fun z => nomatch z
    · subst e
      have F3 := F.keep O b3 t3
      have T3 : Tabs P w as (tabs2 d 0) H3 := hT3.conv fun k hk => by
        unfold tabs2
        by_cases e : k = d.th.length
        · subst e
          simp only [↓reduceIte]
          rw [if_pos (by omega), List.take_of_length_le (by omega), setSomeAll, Nat.sub_self]
          rfl
        · rw [if_neg (by omega), if_neg e]
      -- for size in range(len(self.threads) - 1, -1, -1)
      refine wss_one (ws_forX (fun H2 i σ H5 => ∃ g1 g2 g3 g4 g5 g6, σ = [some (.ref a), g1, g2, g3, g4, g5, g6] ∧ ExB (· ∈ as) H H5 ∧ Tk H H5 ∧ Tabs P w as (tabs2 d i) H5)
        (mix_range3 (lo := ((d.th.length : Nat) : Int) - 1) (j := -1) (k := -1) (n := d.th.length) B.range (me_I0 op_sub (me_lenT B (me_is (me_fld c.cls c.n1 (me_var 0) F3.hi rfl) F3.th)) me_int) (me_un (g := fun i => .int (-i)) un_neg me_int) (me_un (g := fun i => .int (-i)) un_neg me_int) (by have z := RgC.neg (i := ((d.th.length : Nat) : Int) - 1) (j := -1) (by omega) (by omega) (by omega) (by omega); rwa [show ((((d.th.length : Nat) : Int) - 1) - -1).toNat = d.th.length by omega] at z)) PassesOwn.never rfl
        (fun H5 x5 => ⟨_, _, _, _, _, _, rfl, b3.trans (ExB.of x5), t3.trans (tkEx x5), T3.ex x5⟩) (fun H5 i x σ' H6 H7 x5 hi ⟨g1, g2, g3, g4, g5, g6, e, b6, t6, T6⟩ x7 hx => ?_) fun H5 σ' H6 x5 ⟨g1, g2, g3, g4, g5, g6, e, b6, t6, T6⟩ => ?_)
      · subst e
        obtain ⟨m, hm⟩ : ∃ m, d.th.length = m + 1 + i := ⟨d.th.length - 1 - i, by omega⟩
        have hx' : x = .int ((m : Nat) : Int) := by
          rw [hx]
          congr 1
          omega
        subst hx'
        have F7 := (F.keep O b6 t6).ex x7
        have T7 := T6.ex x7
        obtain ⟨cm, hcm⟩ : ∃ cm, as[m]? = some cm := ⟨_, List.getElem?_eq_getElem (by omega)⟩
        obtain ⟨cs, hcs⟩ : ∃ cs, as[m + 1]? = some cs := ⟨_, List.getElem?_eq_getElem (by omega)⟩
        have mm : cm ∈ as := List.mem_of_getElem? hcm
        have hm7 := T7 _ _ hcm
        have em : tabs2 d i m = lvl d m := by
          unfold tabs2
          rw [if_neg (by omega)]
        have es : tabs2 d i (m + 1) = cntT d i (lvl d (m + 1)) := by
          unfold tabs2
          rw [if_pos (by omega)]
          congr 1
          omega
        rw [em] at hm7
        refine wg_name 2 scCount.nd ?_
        -- for bits, last in list(self.levels[size])
        refine wss_one (ws_forX (fun H8 j σ H9 => ∃ g1 g3 g4 g5 g6, σ = [some (.ref a), g1, some (.int ((m : Nat) : Int)), g3, g4, g5, g6] ∧ ExB (· ∈ as) H7 H9 ∧ Tk H7 H9 ∧ Tabs P w as (fun k => if k = m then setSome (cnt d (i + 1)) (((lvl d m).map (·.1)).take j) (lvl d m) else tabs2 d i k) H9)
          (mix_new (mn_xlist (enc := encSt) (KR := RSt) (S := RN) B rfl (me_is (me_ixLV (me_fld c.cls c.n4 (me_var 0) F7.hi rfl) (me_var 2) F7.hL (atRef hcm)) hm7))) PassesOwn.never rfl
          (fun H8 x8 => ⟨_, _, _, _, _, rfl, ExB.of x8, tkEx x8, (T7.ex x8).conv fun k _ => by
            split
            · next e => rw [e, List.take_zero, setSomeNil, em]
            · rfl⟩) (fun H8 j y σ' H9 H10 x8 hj ⟨g1, g3, g4, g5, g6, e, b9, t9, T9⟩ x10 ⟨st, hst, r⟩ => ?_) fun H8 σ' H9 x8 ⟨g1, g3, g4, g5, g6, e, b9, t9, T9⟩ => ?_)
        · subst e
          obtain ⟨T, rfl, hTp⟩ := r
          have F10 := (F7.keep O b9 t9).ex x10
          have T10 := T9.ex x10
          have stm : st ∈ (lvl d m).map (·.1) := List.mem_of_getElem? hst
          have stl := lvlLast d m st stm
          refine wg_tup rfl hTp (wgs_cons (wg_name 3 scCount.nd (wgs_cons (wg_name 4 scCount.nd (wgs_nil ?_)))))
          have nl := nextsLen d st
          -- some = [..]
          refine wss_cons (ws_n0 (R := RN) (S := RN) (j := 5) 6 (mi_newN (ds := nexts d st) (mn_methD (⟨d, st⟩ : DN) (P0 := RF C d) c.cls G (hr.mono (by decide)) ⟨good, stl⟩ (me_var 0) F10.hi rfl F10.f (ma_cons (me_var 3) (ma_cons (me_var 4) ma_nil)))) (fun s => cnt d i (go st s)) (small1000 (by omega)) (fun s y H11 hs x11 r => ?_) (fun l H11 nl' x11 hl => ?_) scCount.nd
            (blkOk_by (N := nCount) (sc := defScope sFittingCountOn) (by decide +kernel)))
          · have r' : y = .int (s : Int) := r
            subst r'
            have hlt := nextsLt hs
            have F11 := F10.ex x11
            have h11 := T10.ex x11 _ _ hcs
            simp only [show ¬ (m + 1 = m) by omega, ↓reduceIte] at h11
            rw [es] at h11
            intro _ _ _ _ _
            exact me_xget (S := RN) (d := cnt d i (go st s)) (k := go st s) kSt hr (me_is (me_ixLV (me_fld c.cls c.n4 (me_var 0) F11.hi rfl) (me_I0 op_add (me_var 2) me_int) F11.hL (show atI (as.map V.ref) (((m : Nat) : Int) + 1) = some (.ref cs) from atRef (k := m + 1) hcs)) h11) (mtSt (st := go st s) (me_or' (me_var 3) (me_shl1 me_int (me_var 6) (by omega))) (me_var 6)).me (cntAt (lvlGo stm hs))
          -- self.levels[size][bits, last] = sum(some)
          have F11 := F10.ex x11
          have T11 := T10.ex x11
          have h11 := T11 _ _ hcm
          simp only [↓reduceIte] at h11
          refine wss_one (ws_xput (S := RN) (d := cnt d (i + 1) st) (k := st) kSt hr h11 (me_ixLV (me_fld c.cls c.n4 (me_var 0) F11.hi rfl) (me_var 2) F11.hL (atRef hcm)) (mtSt (st := st) (me_var 3) (me_var 4)).me ((me_sumN B rfl (me_is (me_var 5) hl)).imp fun v H x h => h) (by
            have e1 := congrArg List.length (setSomeKeys (cnt d (i + 1)) (((lvl d m).map (·.1)).take j) (lvl d m))
            rw [List.length_map, List.length_map] at e1
            have := lv m
            omega) fun H12 b12 t12 h12 => ?_)
          have bs : ExB (· ∈ as) H11 H12 := b12.sub fun b e => by rw [e]; exact mm
          refine ⟨⟨_, _, _, _, _, rfl, b9.trans ((ExB.of (x10.trans x11)).trans bs), t9.trans ((tkEx (x10.trans x11)).trans t12), T11.put hnd hcm b12 t12 h12 ?_ fun k hk => ?_⟩, (ExB.of (x10.trans x11)).trans (bs.sub fun b hb => offNo (.inl ?_)), (tkEx (x10.trans x11)).trans t12⟩
          · simp only [↓reduceIte]
            rw [List.take_add_one, hst, setSomeStep _ _ _ _ stm]
            rfl
          · simp only [if_neg hk]
          · obtain ⟨o, ho⟩ := T7.at hb
            rw [ho]
            exact fun z => nomatch z
        · subst e
          refine ⟨⟨_, _, _, _, _, _, rfl, b6.trans ((ExB.of x7).trans b9), t6.trans ((tkEx x7).trans t9), T9.conv fun k hk => ?_⟩, (ExB.of x7).trans (b9.sub fun b hb => offNo (.inl ?_)), (tkEx x7).trans t9⟩
          · unfold tabs2
            by_cases e : k = m
            · subst e
              simp only [↓reduceIte]
              rw [if_pos (by omega), List.take_of_length_le (by omega), setSomeAll]
              have e2 : d.th.length - k = i + 1 := by omega
              rw [e2]
              rfl
            · rw [if_neg e]
              by_cases e2 : d.th.length - i ≤ k
              · rw [if_pos e2, if_pos (by omega)]
              · rw [if_neg e2, if_neg (by omega)]
          · obtain ⟨o, ho⟩ := T3.at hb
            rw [ho]
            exact fun z => nomatch z
      · subst e
        exact q H6 b6 t6 (T6.conv fun k hk => by
          unfold tabs2
          rw [if_pos (by omega)])
end
end Wk
set_option Elab.async false
set_option linter.all false
set_option maxRecDepth 100000
set_option maxHeartbeats 4000000
/-! The class Fitting: __init__. -/
namespace Wk
open PySem PySem.Spec PyProof.Rows L2
/-- what is kept, the threads' tuple known -/
def RKK : Rp Kept := fun k v H => ∃ (a : Addr) (x y z : V), v = .ref a ∧ Rd H a (.tup [x, y, z]) ∧ TuK k.threads x H ∧ Tu (Tu (Tu RI)) k.crosses y H ∧ Tu (Tu RI) k.bundles z H
instance : MoR RKK := ⟨fun x ⟨a, u, y, z, h1, h2, h3, h4, h5⟩ => ⟨a, u, y, z, h1, rdMo x h2, MoR.mo (R := TuK) x h3, MoR.mo (R := Tu (Tu (Tu RI))) x h4, MoR.mo (R := Tu (Tu RI)) x h5⟩⟩
theorem RKK.rk {k : Kept} {v : V} {H : Hp} (h : RKK k v H) : RK k v H := let ⟨a, x, y, z, h1, h2, h3, h4, h5⟩ := h; ⟨a, x, y, z, h1, h2, h3.tu, h4, h5⟩
/-- as it stood in Hr -/
def Fx {α : Type} (Hr : Hp) (R : Rp α) : Rp α := fun d v _ => R d v Hr
instance {α : Type} {Hr : Hp} {R : Rp α} : MoR (Fx Hr R) := ⟨fun _ h => h⟩
def idxs (th : List Int) (ss : List Int) : List Nat := ss.map fun t => th.idxOf t
def layC (th : List Int) (st : List Nat × List Nat) (stick : List Int) : List Nat × List Nat := ((layA st.1 (idxs th stick)).1, layB st.2 (idxs th stick))
def layX (th : List Int) (st : List Nat × List Nat) (cross : List (List Int)) : List Nat × List Nat := cross.foldl (layC th) st
def zs (n : Nat) : List Nat := List.replicate n 0
def layXs (th : List Int) (cs : List (List (List Int))) : List Nat × List Nat := cs.foldl (layX th) (zs th.length, zs th.length)
def fdOf (k : Kept) : FD := ⟨k.threads, (layRows (layXs k.threads k.crosses).1 (k.bundles.map (idxs k.threads))).1, (layXs k.threads k.crosses).2⟩
def fullT (d : FD) : List Tbl := (List.range (d.th.length + 1)).map fun k => cntT d (d.th.length - k) (lvl d k)
theorem layCLen (th : List Int) (ss : List (List Int)) : ∀ st : List Nat × List Nat, (ss.foldl (layC th) st).1.length = st.1.length ∧ (ss.foldl (layC th) st).2.length = st.2.length := by
  induction ss with
  | nil => exact fun st => ⟨rfl, rfl⟩
  | cons s ss ih => exact fun st => ⟨(ih _).1.trans (foldALen _ _), (ih _).2.trans (foldBLen _ _ _)⟩
theorem layXLen (th : List Int) (ss : List (List (List Int))) : ∀ st : List Nat × List Nat, (ss.foldl (layX th) st).1.length = st.1.length ∧ (ss.foldl (layX th) st).2.length = st.2.length := by
  induction ss with
  | nil => exact fun st => ⟨rfl, rfl⟩
  | cons s ss ih => exact fun st => ⟨(ih _).1.trans (layCLen _ _ _).1, (ih _).2.trans (layCLen _ _ _).2⟩
theorem zsLen (n : Nat) : (zs n).length = n := List.length_replicate
theorem goodF {k : Kept} (h : k.threads.length ≤ 60) : GoodF (fdOf k) := by
  have e := layXLen k.threads k.crosses (zs k.threads.length, zs k.threads.length)
  rw [zsLen] at e
  exact ⟨h, (rowLen _ _).trans e.1, e.2⟩
section
variable {X : Cx} {e a b o : Expr} {es : List Expr} {σ : L2.St} {H : Hp} {pos apos : Pos}
theorem wa_one {Q : List V → Hp → Prop} (h : WE X e σ H fun v H1 => Q [v] H1) (hs : starEach [e] X.env = (false, eval e X.env) :: starEach [] X.env := by rfl) : WA X [e] σ H Q := .of (pa_cons pe_we pa_nil hs) h
theorem repFlat (n : Nat) : (List.replicate n [V.int 0]).flatten = (zs n).map fun n : Nat => V.int (n : Int) := by
  unfold zs
  induction n with
  | zero => rfl
  | succ n ih =>
    rw [List.replicate_succ, List.replicate_succ, List.flatten_cons, ih]
    rfl
theorem mn_zs {n : Nat} (ha : ME X a σ H (Li RN [0])) (hb : ME X b σ H (Is (.int (n : Int)))) (hz : n ≤ 1000) : MN X (.BinOp a .Mult b pos) σ H (Li RN (zs n)) := fun H1 x1 Q q =>
  .of (pe_op op_rep pe_we pe_we) (ha H1 x1 _ fun x H2 x2 t => hb H2 (x1.trans x2) _ fun y H3 x3 p => by
    have e : y = .int (n : Int) := p
    obtain ⟨l, rfl, hl⟩ := liN.mp t
    refine ⟨l, (n : Int), _, rfl, e, x3 _ _ hl, by omega, by omega, ?_, fun p hp => q p _ (Evl.fresh_back (x2.trans x3) hp) ((x2.trans x3).trans (exNew hp)) (liN.mpr ⟨p, rfl, ?_⟩)⟩
    · show 1 * ((n : Nat) : Int).toNat ≤ sizeLine
      rw [Nat.one_mul, Int.toNat_natCast]
      exact sq1000 hz
    · rw [upd_same]
      show some (HO.lst (List.replicate ((n : Nat) : Int).toNat [V.int 0]).flatten) = _
      rw [Int.toNat_natCast, repFlat])
theorem liZero {v : V} {H : Hp} (h : LiP [Is (.int 0)] v H) : Li RN [0] v H := by
  obtain ⟨p, vs, e, h1, h2⟩ := h
  obtain ⟨x, rfl, hx⟩ := p1 h2
  exact ⟨p, [x], e, h1, .cons hx .nil⟩
/-- o.m(), a new object -/
theorem mn_methN0 {C a dx : Addr} {fs : List (Str × V)} {m : Str} {k : Nat} {ps : List Str} {pl : Sem Bool} {δ : Type} {Ps : δ → List Pv} {ok : δ → Prop} {res : δ → Pv} (d : δ) {P0 : Pv} [m0 : Mo P0] (c : Cls X.K C) (F : HasM X.prog X.w X.K X.mg X.base CX0 C m k ps (SpN Ps ok res)) (hr : Room k X.A) (hok : ok d) (ho : ME X o σ H (Is (.ref a))) (hi : H a = some (.ins C dx fs)) (hl : fs.lookup m = none)
    (h0 : P0 (.ref a) H) (hps : Ps d = [P0] := by rfl) (ht : MethTree X o m apos [] pos pl := by rfl) {P' : Pv} (hP : ∀ v H2, res d v H2 → P' v H2 := by exact fun _ _ h => h) : MN X (.Call (.Attribute o m apos) [] [] pos) σ H P' := fun H1 x1 Q q =>
  we_meth0 (E := fun _ _ _ => False) c F hr pass0 (fun H2 x2 => ho H2 (x1.trans x2)) (x1 _ _ hi) hl (fun H2 x2 => ⟨d, hok, by rw [hps]; exact .cons (m0.mo (x1.trans x2) h0) .nil, fun b H4 nb x4 r => q b H4 (Evl.fresh_back x2 nb) (x2.trans x4) (hP _ H4 r)⟩) ht
end
/-! ### classes made -/
structure DfK (K : PySem.W.Frag) (C : Addr) (q : Str) (st : Stmt) : Prop where
  ex : ∃ (f : Addr) (fd : FuncData), FunD K "__init__" q (defArgs st) (defBody st) (defScope st) [] [] f fd ∧ Mk K C f
structure HasK (P : Program) (w : World) (K : PySem.W.Frag) (mg : Str → Option Value) (base : Heap) (CX : CXT) (C : Addr) (k : Nat) (ps : List Str) (sp : Sp) : Prop where
  ex : ∃ (f : Addr) (fd : FuncData), FnOk P w K mg base CX k f fd ps sp ∧ Mk K C f ∧ Binds K fd ps []
theorem HasK.mk' {P : Program} {w : World} {K : PySem.W.Frag} {mg : Str → Option Value} {base : Heap} {C : Addr} {q : Str} {st : Stmt} {N ps : List Str} {k : Nat} {sp : Sp} (D : DfK K C q st) (S : FnScope N ps (defScope st)) (bn : BndM "__init__" q st ps) (len : ∀ vs H Q E, sp vs H Q E → vs.length = ps.length)
    (body : ∀ (f : Addr) (cdv : Value) (A : Around) (outer : List Env) (s : Shared) (H : Hp) (vs : List V) (Q : VK) (E : XK), Room k (A.deeper (envOfC q (defScope st) s.heap.objs.size f cdv)) → sp vs H Q E →
      WSs (cx0 P w K mg base N q st f cdv A outer s H E) (defBody st) { nx := fun _ H' => Q .non H', rt := Q } (start N vs) H) : HasK P w K mg base CX0 C (k + 1) ps sp := by
  obtain ⟨f, fd, F, gm⟩ := D.ex
  exact ⟨f, fd, F.ok S len fun cdv A outer s H vs Q E hr h => ⟨_, PSs.nox pss_wss, body f cdv A outer s H vs Q E hr h⟩, gm, F.bindsN bn⟩
section
variable {P : Program} {w : World} {K : PySem.W.Frag} {mg : Str → Option Value} {base : Heap} {C : Addr}
def spInit (C : Addr) (P : Program) (w : World) : Sp := fun vs H Q _ => ∃ (x dx : Addr) (v : V) (k : Kept) (Hr : Hp), vs = [.ref x, v] ∧ H x = some (.ins C dx []) ∧ Ex Hr H ∧ Hr x = none ∧ RKK k v Hr ∧ GoodK k ∧ k.threads.length ≤ 7 ∧
  ∀ H', Ex Hr H' → RG C P w (fdOf k, fullT (fdOf k)) (.ref x) H' → Q .non H'
abbrev nInit : List Str := ["self", "kept", "threads", "crosses", "bundles", "cross", "stick", "thread", "bundle"]
theorem scInit : FnScope nInit ["self", "kept"] (defScope sFittingInit) := ⟨rfl, rfl, rfl, by decide +kernel, rfl, by decide +kernel, by decide +kernel⟩
def scBunIn : Scope := { kind := .function, names := [((".0" : Str), .local), ("bundle", .local), ("self", .cell)], isGenerator := false, isCoroutine := false }
instance {α : Type} {R : Rp α} [m : MoR R] : MoR (LiU R) := ⟨fun x ⟨a, xs, h1, h2, h3, h4⟩ => ⟨a, xs, h1, x _ _ h2, pImp (fun _ _ => m.mo x) h3, h4⟩⟩
theorem pOfAt {α β : Type} {F : α → β → Prop} : ∀ {l : List α} {m : List β}, l.length = m.length → (∀ (i : Nat) x d, l[i]? = some x → m[i]? = some d → F x d) → Paired F l m
  | [], [], _, _ => .nil
  | x :: l, y :: m, e, h => .cons (h 0 x y rfl rfl) (pOfAt (Nat.succ.inj e) fun i u v h1 h2 => h (i + 1) u v (by rw [List.getElem?_cons_succ]; exact h1) (by rw [List.getElem?_cons_succ]; exact h2))
/-- x in the making -/
structure Pk (C x dx pA pB : Addr) (vt : V) (Hr : Hp) (st : List Nat × List Nat) (H : Hp) : Prop where
  ex : Ex Hr H
  hi : H x = some (.ins C dx (fs3 vt pA pB []))
  hA : H pA = some (lstN st.1)
  hB : H pB = some (lstN st.2)
theorem Pk.mo {x dx pA pB : Addr} {vt : V} {Hr : Hp} {st : List Nat × List Nat} {H H' : Hp} (h : Pk C x dx pA pB vt Hr st H) (y : Ex H H') : Pk C x dx pA pB vt Hr st H' := ⟨h.ex.trans y, y _ _ h.hi, y _ _ h.hA, y _ _ h.hB⟩
theorem refsOf {t : List Tbl} : ∀ {cs : List V} {H : Hp}, Paired (fun x t => RT P w t x H) cs t → ∃ as : List Addr, cs = as.map V.ref := by
  induction t with
  | nil =>
    intro cs H h
    cases h
    exact ⟨[], rfl⟩
  | cons t ts ih =>
    intro cs H h
    cases h with
    | cons r u =>
      obtain ⟨as, e⟩ := ih u
      obtain ⟨a, o, es, e2, _⟩ := r
      exact ⟨a :: as, by rw [e, e2]; rfl⟩
theorem hInit (B : Bl mg) (c : FC K C) (D : DfK K C "Fitting.__init__" sFittingInit) (G1 : HasM P w K mg base CX0 C "lay_stick" 2 ["self", "spots"] (spStick C)) (G2 : HasM P w K mg base CX0 C "lay_bundles" 2 ["self", "rows"] (spRows C))
    (G3 : HasM P w K mg base CX0 C "begun" 2 ["self"] (spBegun C P w)) (G4 : HasM P w K mg base CX0 C "count_on" 2 ["self"] (spCount C P w)) : HasK P w K mg base CX0 C 3 ["self", "kept"] (spInit C P w) :=
  .mk' D scInit (fun _ _ _ _ _ _ us hl => match us, hl with | [_, _], _ => rfl) (fun vs H Q E ⟨_, _, _, _, _, h, _⟩ => by rw [h]; rfl) fun f cdv A outer s H vs Q E hr h => by
    obtain ⟨x, dx, v, k, Hr, rfl, hi, xr, nx, hk, good, h7, q⟩ := h
    obtain ⟨t, vt, vc, vb, rfl, ht, hth, hcr, hbu⟩ := hk
    have off : ∀ {H1 H2 : Hp} {o : HO}, Ex Hr H1 → Ex H1 H2 → Ex Hr (upd H2 x o) := fun {H1 H2 o} a b => ExB.off (D := (· = x)) (a.trans b) (ExB.up rfl) fun b e => by rw [e]; exact nx
    -- threads, crosses, bundles = kept
    refine wss_cons (ws_asg (ME.we (me_var 1) fun u H1 x1 e => ?_))
    have e' : u = V.ref t := e
    subst e'
    refine wg_tup rfl (rdMo (xr.trans x1) ht) (wgs_cons (wg_name 2 scInit.nd (wgs_cons (wg_name 3 scInit.nd (wgs_cons (wg_name 4 scInit.nd (wgs_nil ?_)))))))
    -- self.threads = threads
    refine wss_cons (ws_fld (P := Is vt) c.cls c.n1 (me_var 0) (me_var 2) (x1 _ _ hi) (by decide) fun u H2 x2 e => ?_)
    have e' : u = vt := e
    subst e'
    have i3 : upd H2 x (.ins C dx (putF "threads" u [])) x = some (.ins C dx [(("threads" : Str), u)]) := upd_same
    have r3 : Ex Hr (upd H2 x (.ins C dx (putF "threads" u []))) := off xr (x1.trans x2)
    generalize upd H2 x (.ins C dx (putF "threads" u [])) = H3 at i3 r3
    have ht3 := MoR.mo (R := TuK) r3 hth
    have th60 : k.threads.length ≤ 1000 := by omega
    -- self.ahead = [0] * len(self.threads)
    refine wss_cons (ws_fld (P := NewP (Li RN (zs k.threads.length)) H3) c.cls c.n2 (me_var 0) (mn_zs ((mn_lst (ma_cons (me_int (i := 0)) ma_nil) (moCons moNil) (by simp)).me.imp fun v H' _ h => liZero h) (me_lenT B (me_is (me_fld c.cls c.n1 (me_var 0) i3 rfl) ht3.tu)) th60).new i3 (by show 1 < 1000; decide) fun y H4 x4 hy => ?_)
    obtain ⟨hy, pA, rfl, nA⟩ := hy
    obtain ⟨pA', e, hA4⟩ := liN.mp hy
    cases e
    have xA : pA ≠ x := fun z => by
      rw [z, i3] at nA
      cases nA
    have i5 : upd H4 x (.ins C dx (putF "ahead" (.ref pA) [(("threads" : Str), u)])) x = some (.ins C dx [(("threads" : Str), u), ("ahead", V.ref pA)]) := upd_same
    have r5 : Ex Hr (upd H4 x (.ins C dx (putF "ahead" (.ref pA) [(("threads" : Str), u)]))) := off r3 x4
    have hA5 : upd H4 x (.ins C dx (putF "ahead" (.ref pA) [(("threads" : Str), u)])) pA = some (lstN (zs k.threads.length)) := by
      rw [upd_ne xA]
      exact hA4
    generalize upd H4 x (.ins C dx (putF "ahead" (.ref pA) [(("threads" : Str), u)])) = H5 at i5 r5 hA5
    have ht5 := MoR.mo (R := TuK) r5 hth
    -- self.beside = [0] * len(self.threads)
    refine wss_cons (ws_fld (P := NewP (Li RN (zs k.threads.length)) H5) c.cls c.n3 (me_var 0) (mn_zs ((mn_lst (ma_cons (me_int (i := 0)) ma_nil) (moCons moNil) (by simp)).me.imp fun v H' _ h => liZero h) (me_lenT B (me_is (me_fld c.cls c.n1 (me_var 0) i5 rfl) ht5.tu)) th60).new i5 (by show 2 < 1000; decide) fun y H6 x6 hy => ?_)
    obtain ⟨hy, pB, rfl, nB⟩ := hy
    obtain ⟨pB', e, hB6⟩ := liN.mp hy
    cases e
    have xB : pB ≠ x := fun z => by
      rw [z, i5] at nB
      cases nB
    have hne : pA ≠ pB := fun z => by
      rw [← z, hA5] at nB
      cases nB
    have pk0 : Pk C x dx pA pB u Hr (zs k.threads.length, zs k.threads.length) (upd H6 x (.ins C dx (putF "beside" (.ref pB) [(("threads" : Str), u), ("ahead", V.ref pA)]))) :=
      ⟨off r5 x6, upd_same, by rw [upd_ne xA]; exact x6 _ _ hA5, by rw [upd_ne xB]; exact hB6⟩
    have rA : Hr pA = none := Evl.fresh_back r3 nA
    have rB : Hr pB = none := Evl.fresh_back r5 nB
    generalize upd H6 x (.ins C dx (putF "beside" (.ref pB) [(("threads" : Str), u), ("ahead", V.ref pA)])) = H7 at pk0
    have nlen := layXLen k.threads
    have nlen2 := layCLen k.threads
    -- for cross in crosses
    refine wss_cons (ws_for (fun b => b = pA ∨ b = pB) (fun i σ H => ∃ g5 g6 g7 g8, σ = [some (.ref x), some (.ref t), some u, some vc, some vb, g5, g6, g7, g8] ∧ Pk C x dx pA pB u Hr ((k.crosses.take i).foldl (layX k.threads) (zs k.threads.length, zs k.threads.length)) H)
      (mi_tup (R := Fx Hr (Tu (Tu RI))) (H := Hr) (me_var 3) hcr) pk0.ex (fun b e => by
        rcases e with e | e
        · rw [e]
          exact ⟨rA, by rw [pk0.hA]; exact fun z => nomatch z⟩
        · rw [e]
          exact ⟨rB, by rw [pk0.hB]; exact fun z => nomatch z⟩) PassesOwn.never rfl
      (fun H8 x8 => ⟨none, none, none, none, rfl, pk0.mo x8⟩) (fun i y σ H8 H9 hi' ⟨g5, g6, g7, g8, e, pk8⟩ x9 ⟨cross, hc, r⟩ => ?_) fun σ H8 ⟨g5, g6, g7, g8, e, pk8⟩ => ?_)
    · subst e
      have pk9 := pk8.mo x9
      have cm := List.mem_of_getElem? hc
      have l0 := nlen (k.crosses.take i) (zs k.threads.length, zs k.threads.length)
      rw [zsLen] at l0
      generalize hst : (k.crosses.take i).foldl (layX k.threads) (zs k.threads.length, zs k.threads.length) = st at pk9 pk8 l0
      refine wg_name 5 scInit.nd ?_
      -- for stick in cross
      refine wss_one (ws_for (fun b => b = pA ∨ b = pB) (fun j σ H => ∃ g6 g7 g8, σ = [some (.ref x), some (.ref t), some u, some vc, some vb, some y, g6, g7, g8] ∧ Pk C x dx pA pB u Hr ((cross.take j).foldl (layC k.threads) st) H ∧ ExB (fun b => b = pA ∨ b = pB) H9 H)
        (mi_tup (R := Fx Hr (Tu RI)) (H := Hr) (me_var 5) r) pk9.ex (fun b e => by
          rcases e with e | e
          · rw [e]
            exact ⟨rA, by rw [pk9.hA]; exact fun z => nomatch z⟩
          · rw [e]
            exact ⟨rB, by rw [pk9.hB]; exact fun z => nomatch z⟩) PassesOwn.never rfl
        (fun H10 x10 => ⟨g6, g7, g8, rfl, pk9.mo x10, ExB.of x10⟩) (fun j z σ H10 H11 hj ⟨g6, g7, g8, e, pk10, b10⟩ x11 ⟨stick, hs, r2⟩ => ?_) fun σ H10 ⟨g6, g7, g8, e, pk10, b10⟩ => ?_)
      · subst e
        have pk11 := pk10.mo x11
        have sm := List.mem_of_getElem? hs
        have l1 := nlen2 (cross.take j) st
        have stl : ∀ n ∈ stick, n ∈ k.threads := fun n hn => good.sub n (List.mem_append_right _ (List.mem_flatten.mpr ⟨stick, List.mem_flatten.mpr ⟨cross, cm, sm⟩, hn⟩))
        have stick60 : stick.length ≤ 1000 := Nat.le_trans ((good.cross cross cm).1.all stick sm).len (by decide)
        have r2' : Tu RI stick z H11 := MoR.mo (R := Tu RI) pk11.ex r2
        have ht11 := MoR.mo (R := TuK) pk11.ex hth
        have ni : ∀ {b}, b ≠ pA → b ≠ pB → ¬ (b = pA ∨ b = pB) := fun h1 h2 h => h.elim h1 h2
        generalize hst2 : (cross.take j).foldl (layC k.threads) st = st2 at pk10 pk11 l1
        refine wg_name 6 scInit.nd ?_
        refine wss_one (ws_expr (we_meth (E := fun _ _ _ => False) c.cls G1 hr pass0 (me_var 0) pk11.hi rfl fun H12 x12 =>
          ma_cons (MN.new (mn_n0 (R := RI) (S := RN) 7 (mi_tup (me_var 6) r2') (fun t => k.threads.idxOf t) (small1000 stick60) (fun n w H13 hn x13 r3 => ?_) scInit.nd (blkOk_by (N := nInit) (sc := defScope sFittingInit) (by decide +kernel)))) ma_nil rfl H12 x12 _ fun vs H13 x13 ps => ?_))
        · intro _ _ _ _ _
          exact me_idxK (me_is (me_fld c.cls c.n1 (me_var 0) (x13 _ _ pk11.hi) rfl) (MoR.mo (R := TuK) x13 ht11)) (me_is (me_var 7) r3) (stl n hn)
        · obtain ⟨l', rfl, hl, l, rfl, nl⟩ := p1 ps
          obtain ⟨l', e, hl⟩ := liN.mp hl
          cases e
          have pk13 := pk11.mo (x12.trans x13)
          have nl11 : H11 l = none := nl
          have e60 := good.thr.len
          refine ⟨x, dx, [], u, pA, pB, l, st2.1, st2.2, idxs k.threads stick, rfl, pk13.hi, hne, pk13.hA, pk13.hB, hl, (fun z => by rw [z, pk11.hA] at nl11; cases nl11), (fun z => by rw [z, pk11.hB] at nl11; cases nl11), fun n hn => ?_, by omega, by omega, fun H14 b14 t14 h14A h14B => ⟨⟨_, _, _, rfl, ?_, ?_⟩, ?_⟩⟩
          · obtain ⟨m, hm, rfl⟩ := List.mem_map.mp hn
            rw [l1.1, l0.1]
            exact List.idxOf_lt_length_of_mem (stl m hm)
          · rw [foldTake _ _ _ _ hs, hst2]
            exact ⟨ExB.off (D := fun b => b = pA ∨ b = pB) pk13.ex b14 fun b e => by
              rcases e with e | e
              · rw [e]
                exact rA
              · rw [e]
                exact rB, b14 _ _ (ni (Ne.symm xA) (Ne.symm xB)) pk13.hi, h14A, h14B⟩
          · exact b10.trans ((ExB.of (x11.trans (x12.trans x13))).trans b14)
          · exact (ExB.of (x11.trans (x12.trans x13))).trans b14
      · subst e
        rw [List.take_length] at pk10
        exact ⟨⟨_, _, _, _, rfl, by rw [foldTake _ _ _ _ hc, hst]; exact pk10⟩, (ExB.of x9).trans b10⟩
    · subst e
      rw [List.take_length] at pk8
      have l0 := nlen k.crosses (zs k.threads.length, zs k.threads.length)
      rw [zsLen] at l0
      have hx : k.crosses.foldl (layX k.threads) (zs k.threads.length, zs k.threads.length) = layXs k.threads k.crosses := rfl
      rw [hx] at pk8 l0
      have ht8 := MoR.mo (R := TuK) pk8.ex hth
      have hbu8 := MoR.mo (R := Tu (Tu RI)) pk8.ex hbu
      have e60 := good.thr.len
      have b20 : k.bundles.length ≤ 1000 := by have := good.bund.len; omega
      -- self.lay_bundles(..)
      refine wss_cons (ws_expr (we_meth (E := fun _ _ _ => False) c.cls G2 hr pass0 (me_var 0) pk8.hi rfl fun H9 x9 => wa_one (mn_nest (R := Tu RI) (H := H8) 8 (mi_tup (me_var 4) hbu8) (idxs k.threads) (small1000 b20) (fun bun v H10 hb x10 r => ?_) scInit.nd (blkOk_by (N := nInit) (sc := defScope sFittingInit) (by decide +kernel)) x9 fun l H10 nl x10 hl => ?_)))
      · have stl : ∀ n ∈ bun, n ∈ k.threads := fun n hn => good.sub n (List.mem_append_left _ (List.mem_flatten.mpr ⟨bun, hb, hn⟩))
        intro _ _ _ _ _
        refine mn_n0 (R := RI) (S := RN) 7 (mi_tup (me_var 8) r) (fun t => k.threads.idxOf t) (small1000 (Nat.le_trans (good.bund.all bun hb).len (by decide))) (fun n w H13 hn x13 r3 => ?_) scInit.nd (blkOk_by (N := nInit) (sc := scBunIn) (by decide +kernel))
        intro _ _ _ _ _
        exact me_idxK (me_is (me_fld c.cls c.n1 (me_var 0) (x13 _ _ (x10 _ _ pk8.hi)) rfl) (MoR.mo (R := TuK) (x10.trans x13) ht8)) (me_is (me_var 7) r3) (stl n hn)
      · have pk9 := pk8.mo x9
        have pk10 := pk9.mo x10
        refine ⟨x, dx, [], u, pA, pB, l, (layXs k.threads k.crosses).1, k.bundles.map (idxs k.threads), newH H9 H10, rfl, pk10.hi, pk10.hA, newH_ex, newH_old (by rw [pk9.hA]; exact fun z => nomatch z), hl, fun r hr' s hs => ?_, by omega, fun H11 b11 t11 h11A => ?_⟩
        · obtain ⟨bun, hb, rfl⟩ := List.mem_map.mp hr'
          obtain ⟨m, hm, rfl⟩ := List.mem_map.mp hs
          rw [l0.1]
          exact List.idxOf_lt_length_of_mem (good.sub m (List.mem_append_left _ (List.mem_flatten.mpr ⟨bun, hb, hm⟩)))
        · have r11 : Ex Hr H11 := ExB.off (D := fun b => b = pA) pk10.ex b11 fun b e => by rw [e]; exact rA
          have i11 := b11 _ _ (Ne.symm xA) pk10.hi
          have h11B := b11 _ _ (Ne.symm hne) pk10.hB
          have ht11 := MoR.mo (R := TuK) r11 hth
          have gf : GoodF (fdOf k) := goodF good.thr.len
          have f11 : RF C (fdOf k) (.ref x) H11 := ⟨x, dx, [], u, pA, pB, rfl, i11, .inl rfl, ht11.tu, h11A, h11B⟩
          -- self.levels = self.begun()
          refine wss_cons (ws_fld (P := RBeg P w (fdOf k) H11) c.cls c.n4 (me_var 0) (fun H12 x12 Q' q' => we_meth0 (E := fun _ _ _ => False) c.cls G3 hr pass0 (me_var 0) (x12 _ _ i11) rfl fun H13 x13 => ⟨fdOf k, .ref x, rfl, MoR.mo (R := RF C) (x12.trans x13) f11, gf, h7, fun v H14 x14 ⟨pL, cs, e1, e2, e3, e4, e5, e6⟩ => q' v H14 (x13.trans x14) ⟨pL, cs, e1, Evl.fresh_back (x12.trans x13) e2, e3, e4, e5, fun y hy => let ⟨c, e7, e8⟩ := e6 y hy; ⟨c, e7, Evl.fresh_back (x12.trans x13) e8⟩⟩⟩) i11 (by show 3 < 1000; decide) fun y H12 x12 hy => ?_)
          obtain ⟨pL, cs, rfl, nL, hL, hp, hnd, hnw⟩ := hy
          obtain ⟨as, rfl⟩ := refsOf hp
          have i12 := x12 _ _ i11
          have upx : ∀ {b : Addr} {o : HO}, H12 b = some o → (∀ fs, o ≠ .ins C dx fs) → upd H12 x (.ins C dx (putF "levels" (.ref pL) (fs3 u pA pB []))) b = some o := fun {b o} h1 h2 => by
            have : b ≠ x := fun z => by
              rw [z, i12] at h1
              cases h1
              exact h2 _ rfl
            rw [upd_ne this]
            exact h1
          have r13 : Ex Hr (upd H12 x (.ins C dx (putF "levels" (.ref pL) (fs3 u pA pB [])))) := off r11 x12
          have tkx : Tk H12 (upd H12 x (.ins C dx (putF "levels" (.ref pL) (fs3 u pA pB [])))) := tkUp i12 (fun _ z => nomatch z) fun _ _ z => nomatch z
          have FS13 : FS C x dx u pA pB pL as (fdOf k) (upd H12 x (.ins C dx (putF "levels" (.ref pL) (fs3 u pA pB [])))) :=
            ⟨upd_same, (MoR.mo (R := TuK) r13 hth).tu, upx (x12 _ _ h11A) fun _ z => (nomatch z), upx (x12 _ _ h11B) fun _ z => (nomatch z), upx hL fun _ z => (nomatch z)⟩
          have T13 : Tabs P w as (lvl (fdOf k)) (upd H12 x (.ins C dx (putF "levels" (.ref pL) (fs3 u pA pB [])))) := fun j cc hj => by
            have lj : j < (fdOf k).th.length + 1 := by
              have e1 := pLen hp
              unfold tblsOf at e1
              rw [List.length_map, List.length_map, List.length_range] at e1
              have := (List.getElem?_eq_some_iff.mp hj).1
              omega
            obtain ⟨v', hv1, hv2⟩ := pAt hp (show (tblsOf (fdOf k) ((fdOf k).th.length + 1))[j]? = some (lvl (fdOf k) j) by
              unfold tblsOf
              rw [List.getElem?_map, List.getElem?_range lj]
              rfl)
            rw [List.getElem?_map, hj] at hv1
            cases hv1
            have cx : cc ≠ x := fun z => by
              obtain ⟨c', o, es, e1, e2, _⟩ := hv2
              cases e1
              rw [z, i12] at e2
              cases e2
            exact dxKeep (D := (· = x)) hv2 (ExB.up rfl) tkx cx
          have al : as.length = (fdOf k).th.length + 1 := by
            have e1 := pLen hp
            unfold tblsOf at e1
            rw [List.length_map, List.length_map, List.length_range] at e1
            exact e1
          have an : as.Nodup := by
            have := hnd
            unfold List.Nodup at this ⊢
            rw [List.pairwise_map] at this
            exact this.imp fun h e => h (by rw [e])
          generalize upd H12 x (.ins C dx (putF "levels" (.ref pL) (fs3 u pA pB []))) = H13 at FS13 T13 r13
          -- self.count_on()
          refine wss_one (ws_expr (we_meth0 (E := fun _ _ _ => False) c.cls G4 hr pass0 (me_var 0) FS13.hi rfl fun H14 x14 => ⟨x, dx, u, pA, pB, pL, as, fdOf k, rfl, FS13.ex x14, gf, h7, al, an, T13.ex x14, fun H15 b15 t15 T15 => ?_⟩))
          have O := FS13.off T13
          have FS15 := (FS13.ex x14).keep O b15 t15
          refine q H15 (ExB.off (D := (· ∈ as)) (r13.trans x14) b15 fun b hb => ?_) ⟨x, dx, u, pA, pB, pL, rfl, FS15.hi, FS15.th, FS15.hA, FS15.hB, pL, _, rfl, FS15.hL, ?_⟩
          · obtain ⟨c', e, hc'⟩ := hnw (.ref b) (List.mem_map.mpr ⟨b, hb, rfl⟩)
            cases e
            exact Evl.fresh_back r11 hc'
          · refine pOfAt (by unfold fullT; rw [List.length_map, List.length_map, List.length_range, al]) fun i y t h1 h2 => ?_
            rw [List.getElem?_map] at h1
            obtain ⟨cc, h3, rfl⟩ := Option.map_eq_some_iff.mp h1
            unfold fullT at h2
            rw [List.getElem?_map, List.getElem?_range (by rw [← al]; exact (List.getElem?_eq_some_iff.mp h3).1)] at h2
            cases h2
            exact T15 i cc h3
end
end Wk
set_option Elab.async false
set_option linter.all false
set_option maxRecDepth 100000
set_option maxHeartbeats 4000000
/-! fitting, first_in. -/
namespace Wk
open PySem PySem.Spec PyProof.Rows L2
/-! ### the states that can be gone on from -/
def live (f : FD) (m : Nat) (st : State) : List State := ((nexts f st).map (go st)).filter fun z => decide (0 < cnt f m z)
theorem tblFull (f : FD) {k : Nat} (h : k ≤ f.th.length) : (fullT f)[k]? = some (cntT f (f.th.length - k) (lvl f k)) := by
  unfold fullT
  rw [List.getElem?_map, List.getElem?_range (by omega)]
  rfl
theorem fullLen (f : FD) : (fullT f).length = f.th.length + 1 := by
  unfold fullT
  rw [List.length_map, List.length_range]
theorem tblAtFull (f : FD) {k : Nat} (h : k ≤ f.th.length) : tblAt (f, fullT f) k = cntT f (f.th.length - k) (lvl f k) := by
  unfold tblAt
  rw [List.getD_eq_getElem?_getD, tblFull f h]
  rfl
theorem goneFull {f : FD} {size : Nat} {st : State} (hs : size < f.th.length) (hst : st ∈ (lvl f size).map (·.1)) : goneOn (f, fullT f) size st = live f (f.th.length - (size + 1)) st := by
  unfold goneOn live
  rw [tblAtFull f (by omega)]
  refine List.filter_congr fun z hz => ?_
  obtain ⟨s, hs1, rfl⟩ := List.mem_map.mp hz
  rw [cntAt (lvlGo hst hs1)]
  rfl
theorem okgFull {f : FD} {size : Nat} {st : State} (g : GoodF f) (hs : size < f.th.length) (hst : st ∈ (lvl f size).map (·.1)) : OkG ⟨(f, fullT f), size, st⟩ :=
  ⟨g, lvlLast f size st hst, by show size + 1 < (fullT f).length; rw [fullLen]; omega, fun s h => by
    rw [show tblAt (f, fullT f) (size + 1) = _ from tblAtFull f (k := size + 1) (by omega), cntAt (lvlGo hst h)]
    rfl⟩
theorem liveMem {f : FD} {m : Nat} {st z : State} (h : z ∈ live f m st) : (∃ s ∈ nexts f st, z = go st s) ∧ 0 < cnt f m z := by
  obtain ⟨h1, h2⟩ := List.mem_filter.mp h
  obtain ⟨s, hs, rfl⟩ := List.mem_map.mp h1
  exact ⟨⟨s, hs, rfl⟩, of_decide_eq_true h2⟩
theorem liveLvl {f : FD} {m k : Nat} {st z : State} (hst : st ∈ (lvl f k).map (·.1)) (h : z ∈ live f m st) : z ∈ (lvl f (k + 1)).map (·.1) := by
  obtain ⟨⟨s, hs, rfl⟩, _⟩ := liveMem h
  exact lvlGo hst hs
theorem sumLive (f : FD) (m : Nat) : ∀ ss : List State, ((ss.filter fun z => decide (0 < cnt f m z)).map (cnt f m)).sum = (ss.map (cnt f m)).sum
  | [] => rfl
  | z :: ss => by
    rw [List.filter_cons]
    by_cases h : 0 < cnt f m z
    · rw [decide_eq_true h, if_pos rfl, List.map_cons, List.map_cons, List.sum_cons, List.sum_cons, sumLive f m ss]
    · rw [decide_eq_false h, if_neg (by decide), List.map_cons, List.sum_cons, sumLive f m ss]
      omega
theorem liveSum (f : FD) (m : Nat) (st : State) : ((live f m st).map (cnt f m)).sum = cnt f (m + 1) st := by
  unfold live
  rw [sumLive, List.map_map]
  rfl
theorem liveSome {f : FD} {m : Nat} {st : State} (h : 0 < cnt f (m + 1) st) : ∃ z r, live f m st = z :: r := by
  cases e : live f m st with
  | nil =>
    have := liveSum f m st
    rw [e] at this
    rw [← this] at h
    cases h
  | cons z r => exact ⟨z, r, rfl⟩
theorem liveLen (f : FD) (m : Nat) (st : State) : (live f m st).length ≤ f.th.length := by
  unfold live
  refine Nat.le_trans (List.length_filter_le _ _) ?_
  rw [List.length_map]
  exact nextsLen f st
def hdSt (l : List State) : State := l.headD (0, none)
/-- the first order, step by step -/
def firstSt (f : FD) : Nat → State × List Int
  | 0 => ((0, none), [])
  | i + 1 => (hdSt (live f (f.th.length - (i + 1)) (firstSt f i).1), (firstSt f i).2 ++ [f.th.getD ((hdSt (live f (f.th.length - (i + 1)) (firstSt f i).1)).2.getD 0) 0])
def firstO (f : FD) : List Int := (firstSt f f.th.length).2
theorem firstOk {f : FD} (h : 0 < cnt f f.th.length (0, none)) : ∀ i, i ≤ f.th.length → (firstSt f i).1 ∈ (lvl f i).map (·.1) ∧ 0 < cnt f (f.th.length - i) (firstSt f i).1
  | 0, _ => ⟨by simp [firstSt, lvl], h⟩
  | i + 1, hi => by
    obtain ⟨h1, h2⟩ := firstOk h i (by omega)
    have e : f.th.length - i = (f.th.length - (i + 1)) + 1 := by omega
    rw [e] at h2
    obtain ⟨z, r, hz⟩ := liveSome h2
    have hm : z ∈ live f (f.th.length - (i + 1)) (firstSt f i).1 := by rw [hz]; exact List.mem_cons_self
    have e2 : (firstSt f (i + 1)).1 = z := by
      show hdSt (live f (f.th.length - (i + 1)) (firstSt f i).1) = z
      rw [hz]
      rfl
    rw [e2]
    exact ⟨liveLvl h1 hm, (liveMem hm).2⟩
theorem firstLen (f : FD) : ∀ i, (firstSt f i).2.length = i
  | 0 => rfl
  | i + 1 => by
    show ((firstSt f i).2 ++ [_]).length = i + 1
    rw [List.length_append, firstLen f i]
    rfl
section
variable {X : Cx} {e : Expr} {es : List Expr} {σ : L2.St} {H : Hp} {pos p : Pos}
theorem we_make {C : Addr} {k : Nat} {ps : List Str} {sp : Sp} {x : Str} {E : XK} {CX : CXT} {Q : VK} (F : HasK X.prog X.w X.K X.mg X.base CX C k ps sp) (hr : Room (k + 1) X.A) (hm : X.mg x = some (.ref C)) (hx : Passes CX X E)
    (ha : WA X (e :: es) σ H fun vs H1 => ∀ x dx, H1 x = none → H1 dx = none → dx ≠ x → sp (.ref x :: vs) (upd (upd H1 dx (.own x)) x (.ins C dx [])) (fun v H2 => v = .non ∧ Q (.ref x) H2) E)
    (hg : Gl X x := by rfl) (hdb : (x == ("__debug__" : Str)) = false := by decide) (he : starEach (e :: es) X.env = (false, eval e X.env) :: starEach es X.env := by rfl) (hpl : (backTo pos (starEach es X.env)).any (·.1) = false := by rfl) :
    WE X (.Call (.Name x p) (e :: es) [] pos) σ H Q := by
  obtain ⟨f, fd, F1, M, b⟩ := F.ex
  refine .of (pe_make M F1 hr hg hm b .nil hx pa_wa hdb he hpl) (ha.mono fun vs H1 q x dx hx hdx hne => ?_)
  rw [List.append_nil]
  exact q x dx hx hdx hne
end
section
variable {P : Program} {w : World} {K : PySem.W.Frag} {mg : Str → Option Value} {base : Heap} {C : Addr}
structure Few (k : Kept) : Prop where
  good : GoodK k
  len : k.threads.length ≤ 7
abbrev RGF (C : Addr) (P : Program) (w : World) : Rp FD := fun f => RG C P w (f, fullT f)
instance {C : Addr} {P : Program} {w : World} : MoR (RGF C P w) := ⟨fun x h => MoR.mo (R := RG C P w) x h⟩
abbrev spFitting (C : Addr) (P : Program) (w : World) : Sp := SpN (δ := Kept) (fun d => [RKK d]) Few fun k => RGF C P w (fdOf k)
theorem scFitting : FnScope ["kept"] ["kept"] (defScope sFitting) := ⟨rfl, rfl, rfl, by decide +kernel, rfl, by decide +kernel, by decide +kernel⟩
theorem hFitting (D : Df K mg "fitting" sFitting) (G1 : Has P w K mg base CX0 "need_kept" 7 ["thing"] spNeedKept) (G2 : HasK P w K mg base CX0 C 3 ["self", "kept"] (spInit C P w)) (cm : mg "Fitting" = some (.ref C)) : Has P w K mg base CX0 "fitting" 8 ["kept"] (spFitting C P w) :=
  .mkN D scFitting (fun _ _ _ _ _ _ us hl => match us, hl with | [_], _ => rfl) (fun _ => rfl) fun f cdv A outer s H vs Q E d hr ho ha q => by
    obtain ⟨v, rfl, h1⟩ := p1 ha
    refine wss_cons (ws_expr (ME.we (me_callD d G1 hr ho.good (ma_cons (me_is (me_var 0) h1.rk) ma_nil) (P' := Any) (hP := fun _ _ _ => trivial)) fun _ H1 x1 _ => ?_))
    refine wss_one (ws_ret (we_make (E := fun _ _ _ => False) G2 (hr.mono (by decide)) cm pass0 (wa_one (ME.we (me_var 0) fun u H2 x2 e => fun x dx nx ndx ne => ?_))))
    have e' : u = v := e
    subst e'
    have x12 := x1.trans x2
    refine ⟨x, dx, u, d, H2, rfl, upd_same, (exNew ndx).trans (exNew ?_), nx, MoR.mo (R := RKK) x12 h1, ho.good, ho.len, fun H3 x3 r => ⟨rfl, q x H3 (Evl.fresh_back x12 nx) (x12.trans x3) r⟩⟩
    rw [upd_ne (Ne.symm ne)]
    exact nx

/-! ### first_in -/
structure OkF (f : FD) : Prop where
  good : GoodF f
  len : f.th.length ≤ 7
  some : 0 < cnt f f.th.length (0, none)
abbrev spFirst (C : Addr) (P : Program) (w : World) : Sp := SpD (δ := FD) (fun d => [RGF C P w d]) OkF fun f => TuK (firstO f)
abbrev nFirst : List Str := ["found", "state", "order", "size"]
theorem scFirst : FnScope nFirst ["found"] (defScope sFirstIn) := ⟨rfl, rfl, rfl, by decide +kernel, rfl, by decide +kernel, by decide +kernel⟩
theorem keyZero (f : FD) : ((0, none) : State) ∈ (lvl f 0).map (·.1) := by simp [lvl]
theorem goodMany (f : FD) : ∃ t, (fullT f)[0]? = some t ∧ lkx t ((0, none) : State) = some (cnt f f.th.length (0, none)) := ⟨_, tblFull f (Nat.zero_le _), cntAt (keyZero f)⟩
theorem hFirst (B : Bl mg) (c : FC K C) (D : Df K mg "first_in" sFirstIn) (G1 : HasM P w K mg base CX0 C "many" 1 ["self"] (spMany C P w)) (G2 : HasM P w K mg base CX0 C "gone_on" 2 ["self", "size", "bits", "last"] (spGone C P w)) : Has P w K mg base CX0 "first_in" 3 ["found"] (spFirst C P w) :=
  .mkD D scFirst (fun _ _ _ _ _ _ us hl => match us, hl with | [_], _ => rfl) (fun _ => rfl) fun f cdv A outer s H vs Q E d hr ho ha q => by
    obtain ⟨v, rfl, h1⟩ := p1 ha
    have hg := h1
    obtain ⟨a, dx, vt, pA, pB, pL, rfl, hi, ht, hA, hB, hL⟩ := h1
    have ht : Tu RI d.th vt H := ht
    have hp := ho.some
    have h7 := ho.len
    -- if found.many() == 0
    refine wss_cons (ws_if (MT.wt (k := false) (MT.is (mt_eqS (me_methD0 (⟨(d, fullT d), cnt d d.th.length (0, none)⟩ : DM) (P0 := RGF C P w d) c.cls G1 (hr.mono (by decide)) (goodMany d) (me_var 0) hi rfl hg) me_int) (decide_eq_false (fun e => by
      have e' := V.int.inj e
      simp only [] at e'
      omega))) fun H1 x1 => iteF (wss_nil ?_)))
    -- state, order = ((0, None), ())
    refine wss_cons (ws_asg (MN.we (mn_tup (Ps := [RSt (0, none), TuK []]) (ma_cons (mtSt (st := (0, none)) me_int me_non).me (ma_cons mn_tupK0.me ma_nil)) (moCons (moCons moNil)) (by simp)) fun tp H2 ntp x2 htp => ?_))
    obtain ⟨tp', xs, e, h2, h3⟩ := htp
    cases e
    obtain ⟨u0, w0, rfl, hu, hw⟩ := p2 h3
    refine wg_tup rfl (.inl h2) (wgs_cons (wg_name 1 scFirst.nd (wgs_cons (wg_name 2 scFirst.nd (wgs_nil ?_)))))
    have x12 := x1.trans x2
    -- for size in range(len(found.threads))
    refine wss_cons (ws_for (fun _ => False) (fun i σ H3 => ∃ u z g, σ = [some (.ref a), some u, some z, g] ∧ Ex H H3 ∧ RSt (firstSt d i).1 u H3 ∧ TuK (firstSt d i).2 z H3)
      (mi_range B.range (me_lenT B (me_is (me_fld c.cls c.n1 (me_var 0) hi rfl) ht)) (by omega) (by omega)) x12 (fun b e => e.elim) PassesOwn.never rfl
      (fun H3 x3 => ⟨u0, w0, none, rfl, x12.trans x3, MoR.mo (R := RSt) x3 hu, MoR.mo (R := TuK) x3 hw⟩) (fun i z σ H3 H4 hi' ⟨u, zz, g, e, b3, hu, hw⟩ x4 hz => ?_) fun σ H3 ⟨u, zz, g, e, b3, hu, hw⟩ => ?_)
    · subst e
      subst hz
      have hin : i < d.th.length := by omega
      have x04 := b3.trans x4
      have hg4 := MoR.mo (R := RGF C P w) x04 hg
      have hi4 := x04 _ _ hi
      have ht4 := MoR.mo (R := Tu RI) x04 ht
      have hw4 := MoR.mo (R := TuK) x4 hw
      obtain ⟨T, rfl, hT⟩ := MoR.mo (R := RSt) x4 hu
      obtain ⟨k1, k2⟩ := firstOk hp i (by omega)
      have e1 : d.th.length - i = (d.th.length - (i + 1)) + 1 := by omega
      rw [e1] at k2
      obtain ⟨z, r, hz⟩ := liveSome k2
      have zm : z ∈ live d (d.th.length - (i + 1)) (firstSt d i).1 := by rw [hz]; exact List.mem_cons_self
      have hgo := goneFull hin k1
      have zl := lvlLast d (i + 1) z (liveLvl k1 zm)
      obtain ⟨⟨s, hs, ez⟩, _⟩ := liveMem zm
      have e2 : firstSt d (i + 1) = (z, (firstSt d i).2 ++ [d.th.getD s 0]) := by
        show (hdSt (live d (d.th.length - (i + 1)) (firstSt d i).1), (firstSt d i).2 ++ [d.th.getD ((hdSt (live d (d.th.length - (i + 1)) (firstSt d i).1)).2.getD 0) 0]) = _
        rw [hz]
        show (z, (firstSt d i).2 ++ [d.th.getD (z.2.getD 0) 0]) = _
        rw [ez]
        rfl
      have slt := nextsLt hs
      refine wg_name 3 scFirst.nd ?_
      -- state = found.gone_on(size, state[0], state[1])[0]
      refine wss_cons (ws_set 1 scFirst.nd (ME.we (me_ixL (R := RSt) (d := z) (mn_methD (⟨(d, fullT d), i, (firstSt d i).1⟩ : DG) (P0 := RGF C P w d) c.cls G2 hr (okgFull ho.good hin k1) (me_var 0) hi4 rfl hg4 (ma_cons (me_var 3) (ma_cons (me_ixTV (me_var 1) me_int hT rfl) (ma_cons (me_ixTV (me_var 1) me_int hT rfl) ma_nil))) (P' := Li RSt (live d (d.th.length - (i + 1)) (firstSt d i).1)) (hP := fun v H2 h => by rw [← hgo]; exact h)).me me_int (show atI (live d (d.th.length - (i + 1)) (firstSt d i).1) ((0 : Nat) : Int) = some z by rw [hz, atNat]; rfl)) fun y H5 x5 hy => ?_))
      obtain ⟨T', rfl, hT'⟩ := hy
      have x05 := x04.trans x5
      -- order = order + (found.threads[state[1]],)
      refine wss_one (ws_set 2 scFirst.nd (ME.we (me_catK (ns := (firstSt d i).2) (ms := [d.th.getD s 0]) (me_is (me_var 2) (MoR.mo (R := TuK) x5 hw4)) (mn_tupK1 (me_ixT (R := RI) (d := d.th.getD s 0) (i := (s : Int)) (me_is (me_fld c.cls c.n1 (me_var 0) (x05 _ _ hi) rfl) (MoR.mo (R := Tu RI) x5 ht4)) (me_ixTV (me_var 1) me_int hT' (by rw [ez]; rfl)) ?_)).me ?_) fun y H6 x6 hy => ⟨⟨_, _, _, rfl, x05.trans x6, ?_, ?_⟩, ExB.of (x4.trans (x5.trans x6))⟩))
      · rw [atNat, List.getD_eq_getElem?_getD, List.getElem?_eq_getElem slt]
        rfl
      · rw [firstLen]
        show i + 1 ≤ 1000
        omega
      · rw [e2]
        exact ⟨T', rfl, rdMo x6 hT'⟩
      · rw [e2]
        exact hy
    · subst e
      have e2 : ((d.th.length : Nat) : Int).toNat = d.th.length := by omega
      rw [e2] at hw
      refine wss_one (ws_ret (ME.we (me_var 2) fun u H4 x4 e => ?_))
      have e' : u = zz := e
      subst e'
      exact q u H4 (b3.trans x4) (MoR.mo (R := TuK) x4 hw)
end
end Wk
set_option Elab.async false
set_option linter.all false
set_option maxRecDepth 100000
set_option maxHeartbeats 4000000
/-! The rows, plainly. -/
namespace Wk
open PySem PySem.Spec PyProof.Rows L2
abbrev Row := List Int × State
def thAt (f : FD) (z : State) : Int := f.th.getD (z.2.getD 0) 0
def ext1 (f : FD) (r : Row) (z : State) : Row := (r.1 ++ [thAt f z], z)
def extR (f : FD) (i : Nat) (r : Row) : List Row := (live f (f.th.length - (i + 1)) r.2).map (ext1 f r)
def rowsAt (f : FD) : Nat → List Row
  | 0 => [([], (0, none))]
  | i + 1 => (rowsAt f i).flatMap (extR f i)
structure RowOk (f : FD) (i : Nat) (r : Row) : Prop where
  lv : r.2 ∈ (lvl f i).map (·.1)
  pos : 0 < cnt f (f.th.length - i) r.2
  len : r.1.length = i
theorem rowsOk {f : FD} (h : 0 < cnt f f.th.length (0, none)) : ∀ i, i ≤ f.th.length → ∀ r ∈ rowsAt f i, RowOk f i r
  | 0, _, r, hr => by
    have e : r = ([], (0, none)) := List.mem_singleton.mp hr
    subst e
    exact ⟨keyZero f, h, rfl⟩
  | i + 1, hi, r, hr => by
    obtain ⟨u, hu, hr⟩ := List.mem_flatMap.mp hr
    have o := rowsOk h i (by omega) u hu
    obtain ⟨z, hz, rfl⟩ := List.mem_map.mp hr
    refine ⟨liveLvl o.lv hz, (liveMem hz).2, ?_⟩
    show (u.1 ++ [thAt f z]).length = i + 1
    rw [List.length_append, o.len]
    rfl
theorem sumFlat {α β : Type} (g : β → Nat) (f : α → List β) : ∀ l : List α, ((l.flatMap f).map g).sum = (l.map fun a => ((f a).map g).sum).sum
  | [] => rfl
  | a :: l => by
    rw [List.flatMap_cons, List.map_append, List.sum_append, List.map_cons, List.sum_cons, sumFlat g f l]
theorem rowsSum (f : FD) : ∀ i, i ≤ f.th.length → ((rowsAt f i).map fun r => cnt f (f.th.length - i) r.2).sum = cnt f f.th.length (0, none)
  | 0, _ => by simp [rowsAt]
  | i + 1, hi => by
    show (((rowsAt f i).flatMap (extR f i)).map _).sum = _
    rw [sumFlat, ← rowsSum f i (by omega)]
    refine congrArg List.sum (List.map_congr_left fun r _ => ?_)
    unfold extR
    rw [List.map_map]
    have e : f.th.length - i = (f.th.length - (i + 1)) + 1 := by omega
    rw [e, ← liveSum]
    rfl
theorem lenSum {α : Type} (g : α → Nat) : ∀ l : List α, (∀ a ∈ l, 0 < g a) → l.length ≤ (l.map g).sum
  | [], _ => Nat.le_refl _
  | a :: l, h => by
    have h1 := h a List.mem_cons_self
    have h2 := lenSum g l fun b hb => h b (List.mem_cons_of_mem _ hb)
    rw [List.length_cons, List.map_cons, List.sum_cons]
    omega
theorem rowsLen {f : FD} (h : 0 < cnt f f.th.length (0, none)) {i : Nat} (hi : i ≤ f.th.length) : (rowsAt f i).length ≤ cnt f f.th.length (0, none) := by
  rw [← rowsSum f i hi]
  exact lenSum (fun r : Row => cnt f (f.th.length - i) r.2) _ fun r hr => (rowsOk h i hi r hr).pos
theorem nextsNd (f : FD) (st : State) : (nexts f st).Nodup := (List.nodup_range.filter _).filter _
theorem thInj {f : FD} (nd : f.th.Nodup) {s s' : Nat} (h : s < f.th.length) (h' : s' < f.th.length) (e : f.th.getD s 0 = f.th.getD s' 0) : s = s' := by
  rw [List.getD_eq_getElem?_getD, List.getD_eq_getElem?_getD, List.getElem?_eq_getElem h, List.getElem?_eq_getElem h'] at e
  exact (List.getElem_inj nd).mp e
theorem extNd {f : FD} (nd : f.th.Nodup) (i : Nat) (r : Row) : ((extR f i r).map (·.1)).Nodup := by
  unfold extR live
  rw [List.map_map]
  unfold List.Nodup
  rw [List.pairwise_map]
  refine List.Pairwise.filter _ ?_
  rw [List.pairwise_map]
  refine List.Pairwise.imp_of_mem (R := fun a b => a ≠ b) (fun {s s'} hs hs' hne e => hne ?_) (nextsNd f r.2)
  have e2 : r.1 ++ [thAt f (go r.2 s)] = r.1 ++ [thAt f (go r.2 s')] := e
  have e3 := List.append_cancel_left e2
  exact thInj nd (nextsLt hs) (nextsLt hs') (List.cons.inj e3).1
theorem rowsNd {f : FD} (nd : f.th.Nodup) : ∀ i, ((rowsAt f i).map (·.1)).Nodup
  | 0 => by simp [rowsAt]
  | i + 1 => by
    show (((rowsAt f i).flatMap (extR f i)).map (·.1)).Nodup
    have ih := rowsNd nd i
    unfold List.Nodup at ih ⊢
    rw [List.pairwise_map] at ih
    rw [List.map_flatMap, List.pairwise_flatMap]
    refine ⟨fun r _ => extNd nd i r, ih.imp fun {a b} hab x hx y hy e => ?_⟩
    obtain ⟨p, hp, rfl⟩ := List.mem_map.mp hx
    obtain ⟨z, _, rfl⟩ := List.mem_map.mp hp
    obtain ⟨p', hp', rfl⟩ := List.mem_map.mp hy
    obtain ⟨z', _, rfl⟩ := List.mem_map.mp hp'
    exact hab (List.append_inj_left' e rfl)
/-- what was laid so far, then the next -/
def sofar (f : FD) (i j k : Nat) (r : Row) : List Row := ((rowsAt f i).take j).flatMap (extR f i) ++ ((live f (f.th.length - (i + 1)) r.2).take k).map (ext1 f r)
theorem sofarNew {f : FD} (nd : f.th.Nodup) {i j k : Nat} {r : Row} {z : State} (hr : (rowsAt f i)[j]? = some r) (hz : (live f (f.th.length - (i + 1)) r.2)[k]? = some z) : (ext1 f r z).1 ∉ (sofar f i j k r).map (·.1) := by
  have h := rowsNd nd (i + 1)
  obtain ⟨hj, ej⟩ := List.getElem?_eq_some_iff.mp hr
  obtain ⟨hk, ek⟩ := List.getElem?_eq_some_iff.mp hz
  have e1 : rowsAt f i = (rowsAt f i).take j ++ r :: (rowsAt f i).drop (j + 1) := by
    conv => lhs; rw [← List.take_append_drop j (rowsAt f i), List.drop_eq_getElem_cons hj, ej]
  have e2 : live f (f.th.length - (i + 1)) r.2 = (live f (f.th.length - (i + 1)) r.2).take k ++ z :: (live f (f.th.length - (i + 1)) r.2).drop (k + 1) := by
    conv => lhs; rw [← List.take_append_drop k (live f (f.th.length - (i + 1)) r.2), List.drop_eq_getElem_cons hk, ek]
  have e3 : rowsAt f (i + 1) = sofar f i j k r ++ (ext1 f r z :: (((live f (f.th.length - (i + 1)) r.2).drop (k + 1)).map (ext1 f r) ++ ((rowsAt f i).drop (j + 1)).flatMap (extR f i))) := by
    show (rowsAt f i).flatMap (extR f i) = _
    conv => lhs; rw [e1]
    rw [List.flatMap_append, List.flatMap_cons]
    have e4 : extR f i r = ((live f (f.th.length - (i + 1)) r.2).take k).map (ext1 f r) ++ (ext1 f r z :: ((live f (f.th.length - (i + 1)) r.2).drop (k + 1)).map (ext1 f r)) := by
      unfold extR
      conv => lhs; rw [e2]
      rw [List.map_append, List.map_cons]
    rw [e4]
    unfold sofar
    simp only [List.append_assoc, List.cons_append]
  rw [e3, List.map_append, List.map_cons] at h
  intro hm
  exact (List.nodup_append.mp h).2.2 _ hm _ List.mem_cons_self rfl
theorem sofarStep {f : FD} {i j k : Nat} {r : Row} {z : State} (hz : (live f (f.th.length - (i + 1)) r.2)[k]? = some z) : sofar f i j (k + 1) r = sofar f i j k r ++ [ext1 f r z] := by
  unfold sofar
  rw [List.take_add_one, hz, List.map_append, List.append_assoc]
  rfl
theorem sofarAll {f : FD} {i j : Nat} {r : Row} (hr : (rowsAt f i)[j]? = some r) : sofar f i j (live f (f.th.length - (i + 1)) r.2).length r = ((rowsAt f i).take (j + 1)).flatMap (extR f i) := by
  unfold sofar
  rw [List.take_length, List.take_add_one, hr, List.flatMap_append]
  show _ = _ ++ List.flatMap (extR f i) [r]
  rw [List.flatMap_cons, List.flatMap_nil, List.append_nil]
  rfl
theorem sofarLen {f : FD} (h : 0 < cnt f f.th.length (0, none)) {i j k : Nat} {r : Row} (hi : i + 1 ≤ f.th.length) (hr : (rowsAt f i)[j]? = some r) : (sofar f i j k r).length ≤ cnt f f.th.length (0, none) := by
  refine Nat.le_trans ?_ (rowsLen h hi)
  have e : (sofar f i j k r).length ≤ (sofar f i j (live f (f.th.length - (i + 1)) r.2).length r).length := by
    unfold sofar
    rw [List.length_append, List.length_append, List.length_map, List.length_map, List.take_length]
    have := List.length_take_le k (live f (f.th.length - (i + 1)) r.2)
    have h2 : ((live f (f.th.length - (i + 1)) r.2).take k).length ≤ (live f (f.th.length - (i + 1)) r.2).length := by
      rw [List.length_take]
      omega
    omega
  refine Nat.le_trans e ?_
  rw [sofarAll hr]
  show _ ≤ ((rowsAt f i).flatMap (extR f i)).length
  conv => rhs; rw [← List.take_append_drop (j + 1) (rowsAt f i), List.flatMap_append, List.length_append]
  omega
end Wk
set_option Elab.async false
set_option linter.all false
set_option maxRecDepth 100000
set_option maxHeartbeats 4000000
/-! rows_between. -/
namespace Wk
open PySem PySem.Spec PyProof.Rows L2
section
variable {X : Cx}
def rSortedRd : List V → Hp → VK → Prop := fun vs H Q => ∃ (a : Addr) (rs : List (Addr × List Int)), vs = [V.ref a] ∧ H a = some (.lst (rs.map fun r => V.ref r.1)) ∧ (∀ r ∈ rs, Rd H r.1 (.tup (r.2.map V.int)) ∧ r.2 ≠ []) ∧
  ∀ (rs' : List (Addr × List Int)) (p : Addr), rs'.Perm rs → H p = none → Q (.ref p) (upd H p (.lst (rs'.map fun r => V.ref r.1)))
theorem crSortedRd (hu : X.A.units + 66 < cLine) : CallR X (.builtin "sorted") rSortedRd := by
  intro pins s σ H vs us Q I r h
  obtain ⟨a, rs, rfl, hs, hr, q⟩ := h
  obtain ⟨its, rv, hl, hz⟩ := I.list (SqL.of hs)
  rw [Vals.ref1 r]
  have E1 := eachRefs rv
  have len : its.length = rs.length := by rw [← rv.length, List.length_map]
  have zz : rs.length ≤ sizeLine := by rw [← List.length_map (f := fun r : Addr × List Int => V.ref r.1)]; exact hz
  have E2 : PySem.W.EachIs (fun v b => ∃ as, Reads s.heap v (rowD b) as) its rs := eachMem E1 fun v b hb e => by
    obtain ⟨h1, h2⟩ := hr b hb
    have d : Dp X.K H (V.ref b.1) (rowD b) := .tup (.inl h1) (by
      have all : ∀ ns : List Int, DpAll X.K H (ns.map V.int) (ns.map PyData.int) := fun ns => by
        induction ns with
        | nil => exact .nil
        | cons n ns ih => exact .cons (.int n) ih
      exact all b.2)
    exact Dp.reads I (rowD b) _ v d e
  have al : PySem.W.AllAlike (rs.map rowD) := fun d hd d' hd' => by
    obtain ⟨b, _, rfl⟩ := List.mem_map.mp hd
    obtain ⟨b', _, rfl⟩ := List.mem_map.mp hd'
    show PySem.W.alike (rowD b) (rowD b') = true
    unfold rowD
    simp only [PySem.W.alike]
    exact rowD_alike _ _
  have so : PySem.W.Sortable (rs.map rowD) := .inl fun d hd => by
    obtain ⟨b, hb, rfl⟩ := List.mem_map.mp hd
    obtain ⟨_, ne⟩ := hr b hb
    obtain ⟨c, ns⟩ := b
    cases ns with
    | nil => exact absurd rfl ne
    | cons n ns => exact ⟨.int n, ns.map .int, rfl⟩
  refine PySem.W.sorted_data (bs := rs) (enc := rowD) (R := fun v (r : Addr × List Int) => v = Value.ref r.1) hl.isList E1 E2 al so zz (fun b _ => by rw [rowD_depth]; omega) fun out ol oe => ?_
  obtain ⟨ep, he⟩ := sortedAll_at s.heap its out.toArray
  have pm : (rs.mergeSort (PySem.W.dataLe false rowD)).Perm rs := List.mergeSort_perm _ _
  have fits : ((rs.mergeSort (PySem.W.dataLe false rowD)).map fun r => V.ref r.1).length ≤ sizeLine := by
    rw [List.length_map, pm.length_eq]
    exact zz
  have J := I.laid (t' := s.toks) (o := .lst ((rs.mergeSort (PySem.W.dataLe false rowD)).map fun r => V.ref r.1)) (fun b u e => sortedAll_old e) (Nat.le_succ _) ⟨fits, out, ep, refsEach oe, he⟩
  exact ⟨.ref _, _, J, rfl, q _ _ pm (I.hok.fresh (Nat.le_succ _))⟩

end
/-- a list of these rows, in some order -/
def RPm (rows : List (List Int)) : Pv := fun v H => ∃ rs : List (List Int), rs.Perm rows ∧ Li (Tu RI) rs v H
instance {rows : List (List Int)} : Mo (RPm rows) := ⟨fun x ⟨rs, h1, h2⟩ => ⟨rs, h1, MoR.mo (R := Li (Tu RI)) x h2⟩⟩
theorem rowAddrs : ∀ {xs : List V} {ds : List (List Int)} {H : Hp}, Paired (fun x d => Tu RI d x H) xs ds → ∃ rs : List (Addr × List Int), xs = rs.map (fun r => V.ref r.1) ∧ rs.map (·.2) = ds ∧ ∀ r ∈ rs, Rd H r.1 (.tup (r.2.map V.int))
  | _, [], H, h => by
    cases h
    exact ⟨[], rfl, rfl, fun r hr => nomatch hr⟩
  | _, d :: ds, H, h => by
    cases h with
    | cons r t =>
      obtain ⟨rs, e1, e2, e3⟩ := rowAddrs t
      obtain ⟨a, rfl, ha⟩ := tuI.mp r
      refine ⟨(a, d) :: rs, by rw [e1]; rfl, by rw [List.map_cons, e2], fun q hq => ?_⟩
      rcases List.mem_cons.mp hq with e | e
      · rw [e]
        exact ha
      · exact e3 q e
theorem rowsBack : ∀ {rs : List (Addr × List Int)} {H : Hp}, (∀ r ∈ rs, Rd H r.1 (.tup (r.2.map V.int))) → Paired (fun x d => Tu RI d x H) (rs.map fun r => V.ref r.1) (rs.map (·.2))
  | [], H, h => .nil
  | r :: rs, H, h => .cons (tuI.mpr ⟨r.1, rfl, h r List.mem_cons_self⟩) (rowsBack fun q hq => h q (List.mem_cons_of_mem _ hq))
section
variable {X : Cx} {a b o i e : Expr} {σ : L2.St} {H : Hp} {pos p pos' : Pos}
theorem mn_sortedRows {ds : List (List Int)} (B : Bl X.mg) (hu : X.A.units + 66 < cLine) (h : ME X a σ H (Li (Tu RI) ds)) (ne : ∀ d ∈ ds, d ≠ []) (hg : Gl X "sorted" := by rfl) (hs : starEach [a] X.env = (false, eval a X.env) :: starEach [] X.env := by rfl) : MN X (.Call (.Name "sorted" p) [a] [] pos) σ H (RPm ds) := fun H1 x1 Q k =>
  .of (pe_callB (crSortedRd hu) hg B.sorted btSorted pa_wa (by decide) (by decide) hs rfl) (ma_cons h ma_nil hs H1 x1 _ fun vs H2 x2 ps => by
    obtain ⟨x, rfl, q, xs, rfl, h2, h3⟩ := p1 ps
    obtain ⟨rs, rfl, e2, e3⟩ := rowAddrs h3
    refine ⟨q, rs, rfl, h2, fun r hr => ⟨e3 r hr, ne _ (by rw [← e2]; exact List.mem_map.mpr ⟨r, hr, rfl⟩)⟩, fun rs' p pm hp => k p _ (Evl.fresh_back x2 hp) (x2.trans (exNew hp)) ⟨rs'.map (·.2), by rw [← e2]; exact pm.map _, p, _, rfl, upd_same, rowsBack fun r hr => rdMo (exNew hp) (e3 r (pm.mem_iff.mp hr))⟩⟩)
/-- an address -/
def RA : Rp Addr := fun a v _ => v = .ref a
instance : Im RA := ⟨fun _ h => h⟩
instance : Im RB := ⟨fun _ h => h⟩
/-- d[k] = a new thing, d standing at t -/
theorem ws_xputN {κ : Type} [DecidableEq κ] {enc : κ → NK} {KR : Rp κ} {ds : List (κ × Addr)} {k : κ} {n : Nat} [m1 : Im KR] {D : Ends} {t : Addr} {Q0 : Pv} (K : KOk enc KR) (hr : Room n X.A) (ht : Dx X.prog X.w enc KR RA ds (.ref t) H) (ho : ME X a σ H (Is (.ref t))) (hi : ME X b σ H (KR k)) (hv : MN X e σ H Q0) [m0 : Mo Q0] (hz : ds.length ≤ 1000)
    (next : ∀ c H1 H2, H c = none → Ex H H1 → Q0 (.ref c) H1 → ExB (· = t) H1 H2 → Tk H1 H2 → Dx X.prog X.w enc KR RA (putx ds k c) (.ref t) H2 → D.nx σ H2) (hs : swapsWith e (some (.Subscript a b pos')) pos.line X.env = pure false := by rfl) : WS X (.Assign [.Subscript a b pos'] e pos) D σ H :=
  .of (ps_xput hr pe_we pe_we pe_we hs) (hv.we fun c H1 nc x1 p1 => ho.ex x1 fun x H2 x2 p2 => hi.ex (x1.trans x2) fun y H3 x3 p3 => by
    have e2 : x = V.ref t := p2
    have x13 := x1.trans (x2.trans x3)
    obtain ⟨t', o, es, e3, h1, h2, h3⟩ := MoR.mo (R := Dx X.prog X.w enc KR RA) x13 ht
    cases e3
    obtain ⟨bb, rfl⟩ := K.ref p3
    have l := pLen h3
    refine ⟨t, o, es, enc k, bb, e2, rfl, ⟨h1, h2, exKeys K h3⟩, K.key p3, by have := small1000 hz; omega, fun o' f => next c H3 _ nc x13 (m0.mo (x2.trans x3) p1) (ExB.up rfl) (fun b xs r => tkRaw h1 b xs r) ⟨t, o', _, rfl, upd_same, f, ?_⟩⟩
    exact pImp (fun _ _ ⟨z1, z2, z3⟩ => ⟨z1, m1.im (tkRaw h1) z2, z3⟩) (exPut (S := RA) K h3 p3 (show RA c (.ref c) H3 from rfl)))
/-- {k: a new thing} -/
theorem we_x1N {κ : Type} [DecidableEq κ] {enc : κ → NK} {KR : Rp κ} {k : κ} {n : Nat} [m1 : Im KR] {Q0 : Pv} {Q : VK} (K : KOk enc KR) (hr : Room n X.A) (hi : ME X a σ H (KR k)) (hv : MN X e σ H Q0)
    (q : ∀ t c H1 H2, H t = none → Ex H H1 → H1 c = some (HO.lst []) ∨ True → c ≠ t → H c = none → Q0 (.ref c) H1 → ExB (· = t) H1 H2 → Tk H1 H2 → Ex H H2 → Dx X.prog X.w enc KR RA [(k, c)] (.ref t) H2 → Q (.ref t) H2) : WE X (.Dict [some a] [e] pos) σ H Q :=
  .of (pe_xone hr pe_we pe_we) fun p o hp f => hi _ (exNew hp) _ fun u H2 x2 p2 => hv H2 ((exNew hp).trans x2) _ fun c H3 nc x3 p3 => by
    obtain ⟨bb, rfl⟩ := K.ref p2
    have hp2 : H2 p = some (RawO p o) := x2 _ _ upd_same
    have hp3 := x3 _ _ hp2
    have cne : c ≠ p := fun z => by
      rw [z, hp2] at nc
      cases nc
    have x03 : Ex H H3 := (exNew hp).trans (x2.trans x3)
    refine ⟨enc k, bb, rfl, hp3, K.key (m1.im (tkEx x3) p2), fun o' f' => q p c H3 _ hp x03 (.inr trivial) cne (Evl.fresh_back ((exNew hp).trans x2) nc) p3 (ExB.up rfl) (fun b xs r => tkRaw hp3 b xs r) (ExB.off (D := (· = p)) x03 (ExB.up rfl) fun b e => by rw [e]; exact hp) ⟨p, o', [(enc k, bb, .ref c)], rfl, upd_same, f', .cons ⟨rfl, m1.im (tkRaw hp3) (m1.im (tkEx x3) p2), rfl⟩ .nil⟩⟩
end
end Wk
set_option Elab.async false
set_option linter.all false
set_option maxRecDepth 100000
set_option maxHeartbeats 4000000
/-! The class Fitting: rows_between. -/
namespace Wk
open PySem PySem.Spec PyProof.Rows L2
def RowsAt (P : Program) (w : World) (p : Addr) (rows : List Row) (H : Hp) : Prop := ∃ ds : List (List Int × Addr), Dx P w encRow (Tu RI) RA ds (.ref p) H ∧ Paired (fun d r => d.1 = r.1 ∧ d.2 ≠ p ∧ Dx P w encSt RSt RB [(r.2, true)] (.ref d.2) H) ds rows
section
variable {P : Program} {w : World} {K : PySem.W.Frag} {mg : Str → Option Value} {base : Heap} {C : Addr}
theorem RowsAt.mo {p : Addr} {rows : List Row} {H H' : Hp} (h : RowsAt P w p rows H) (x : Ex H H') : RowsAt P w p rows H' := by
  obtain ⟨ds, h1, h2⟩ := h
  exact ⟨ds, MoR.mo (R := Dx P w encRow (Tu RI) RA) x h1, pImp (fun _ _ ⟨a, b, c⟩ => ⟨a, b, MoR.mo (R := Dx P w encSt RSt RB) x c⟩) h2⟩
theorem rowKeys {p : Addr} {H : Hp} : ∀ {ds : List (List Int × Addr)} {rows : List Row}, Paired (fun d r => d.1 = r.1 ∧ d.2 ≠ p ∧ Dx P w encSt RSt RB [(r.2, true)] (.ref d.2) H) ds rows → ds.map (·.1) = rows.map (·.1)
  | _, [], h => by
    cases h
    rfl
  | _, r :: rows, h => by
    cases h with
    | cons a t => rw [List.map_cons, List.map_cons, rowKeys t, a.1]
theorem dxAddr {κ β : Type} {enc : κ → NK} {KR : Rp κ} {S : Rp β} {ds : List (κ × β)} {c : Addr} {H : Hp} (h : Dx P w enc KR S ds (.ref c) H) : H c ≠ none := by
  obtain ⟨c', o, es, e, h1, _⟩ := h
  cases e
  rw [h1]
  exact fun z => nomatch z
theorem lkxFalse {κ β : Type} [DecidableEq κ] {ds : List (κ × β)} {k : κ} (h : k ∉ ds.map (·.1)) : (lkx ds k).isSome = false := by
  rw [lkxSome]
  exact decide_eq_false h
theorem putxNew {κ β : Type} [DecidableEq κ] {ds : List (κ × β)} {k : κ} {b : β} (h : k ∉ ds.map (·.1)) : putx ds k b = ds ++ [(k, b)] := by
  unfold putx
  rw [if_neg]
  rw [lkxFalse h]
  decide
theorem lkxPutNew {κ β : Type} [DecidableEq κ] {k : κ} {b : β} : ∀ {ds : List (κ × β)}, k ∉ ds.map (·.1) → lkx (ds ++ [(k, b)]) k = some b
  | [], _ => by
    show lkx [(k, b)] k = some b
    rw [lkxCons, if_pos rfl]
  | d :: ds, h => by
    rw [List.cons_append, lkxCons, if_neg fun e => h (by rw [← e]; exact List.mem_cons_self)]
    exact lkxPutNew fun z => h (List.mem_cons_of_mem _ z)
theorem RowsAt.tk {p : Addr} {rows : List Row} {H H' : Hp} (h : RowsAt P w p rows H) (x : ExB (· = p) H H') : Tk H H' := by
  obtain ⟨ds, ⟨p', o, es, e, h1, _⟩, _⟩ := h
  cases e
  intro b xs r
  rcases r with r | ⟨ob, r⟩
  · exact .inl (x b _ (fun e => by
      have e' : b = p := e
      rw [e', h1] at r
      cases r) r)
  · exact .inr ⟨ob, x b _ (fun e => by
      have e' : b = p := e
      rw [e', h1] at r
      cases r) r⟩
/-- one row more -/
theorem rowAdd {p c : Addr} {ds : List (List Int × Addr)} {rows : List Row} {r : Row} {H H1 H2 H3 : Hp} (hP : Paired (fun d r => d.1 = r.1 ∧ d.2 ≠ p ∧ Dx P w encSt RSt RB [(r.2, true)] (.ref d.2) H) ds rows) (nk : r.1 ∉ rows.map (·.1)) (x1 : Ex H H1) (b : ExB (· = p) H1 H2) (t : Tk H1 H2) (b2 : ExB (· = c) H2 H3) (t2 : Tk H2 H3)
    (nc : H c = none) (cp : c ≠ p) (hD : Dx P w encRow (Tu RI) RA (putx ds r.1 c) (.ref p) H2) (hc : Dx P w encSt RSt RB [(r.2, true)] (.ref c) H3) : RowsAt P w p (rows ++ [r]) H3 := by
  have e : putx ds r.1 c = ds ++ [(r.1, c)] := by
    refine putxNew ?_
    rw [rowKeys hP]
    exact nk
  rw [e] at hD
  refine ⟨_, dxKeep hD b2 t2 (Ne.symm cp), pApp (pImp (fun d r ⟨h1, h2, h3⟩ => ⟨h1, h2, ?_⟩) hP) (.cons ⟨rfl, cp, hc⟩ .nil)⟩
  have h4 := MoR.mo (R := Dx P w encSt RSt RB) x1 h3
  refine dxKeep (dxKeep h4 b t h2) b2 t2 fun z => ?_
  have z' : d.2 = c := z
  rw [← z'] at nc
  exact dxAddr h3 nc
structure OkR (f : FD) : Prop extends OkF f where
  nd : f.th.Nodup
  few : cnt f f.th.length (0, none) ≤ 200
  ne : 0 < f.th.length
abbrev spRowsB (C : Addr) (P : Program) (w : World) : Sp := SpN (δ := FD) (fun d => [RGF C P w d, Is (.int 0), Is (.int (d.th.length : Int))]) OkR fun f => RPm ((rowsAt f f.th.length).map (·.1))
abbrev nRowsB : List Str := ["self", "first", "behind", "rows", "state", "many", "size", "found", "row", "states", "bits", "last", "longer"]
theorem scRowsB : FnScope nRowsB ["self", "first", "behind"] (defScope sFittingRowsBetween) := ⟨rfl, rfl, rfl, by decide +kernel, rfl, by decide +kernel, by decide +kernel⟩
theorem hRowsB (B : Bl mg) (c : FC K C) (D : DfM K C "rows_between" "Fitting.rows_between" sFittingRowsBetween) (G2 : HasM P w K mg base CX0 C "gone_on" 2 ["self", "size", "bits", "last"] (spGone C P w)) (ct : ∃ t, mg "MOST_TOLD" = some (.int 200 t)) : HasM P w K mg base CX0 C "rows_between" 3 ["self", "first", "behind"] (spRowsB C P w) :=
  .mkN D scRowsB (fun _ _ _ _ _ _ us hl => match us, hl with | [_, _, _], _ => rfl) (fun _ => rfl) fun f cdv A outer s H vs Q E d hr ho ha q => by
    obtain ⟨v, v1, v2, rfl, h1, h2, h3⟩ := p3 ha
    have h2' : v1 = .int ((0 : Nat) : Int) := h2
    have h3' : v2 = .int (d.th.length : Int) := h3
    subst h2' h3'
    have hg := h1
    obtain ⟨a, dx, vt, pA, pB, pL, rfl, hi, ht, hA, hB, hL⟩ := h1
    have ht : Tu RI d.th vt H := ht
    have hpos := ho.some
    have h7 := ho.len
    have few := ho.few
    obtain ⟨pL', cs, e, hLc, hpc⟩ := hL
    cases e
    obtain ⟨c0, hc0, hT0⟩ := pAt hpc (tblFull d (Nat.zero_le _))
    have e0 : cntT d (d.th.length - 0) (lvl d 0) = [(((0, none) : State), cnt d d.th.length (0, none))] := rfl
    rw [e0] at hT0
    -- rows = {(): dict([..])}
    refine wss_cons (ws_set 3 scRowsB.nd (we_x1N (Q0 := Dx P w encSt RSt RB [((0, none), true)]) kRow hr ((mn_tup ma_nil moNil (Nat.zero_le _)).me.imp fun v H x h => TuP.tu (ds := ([] : List Int)) h)
      (by
        have e1 : ((([(((0, none) : State), cnt d d.th.length (0, none))] : Tbl).filter fun e => decide (0 < e.2)).map fun e => (e.1, true)) = [((0, none), true)] := by
          rw [List.filter_cons, if_pos (decide_eq_true hpos)]
          rfl
        rw [← e1]
        exact mn_xdict kSt hr B rfl (mn_p1 (R := Pr RSt RN) (S := Pr RSt RB) (ds := [(((0, none) : State), cnt d d.th.length (0, none))]) 4 5 (fun d u w H => RSt d.1 u H ∧ RN d.2 w H) (mi_xitems (enc := encSt) (KR := RSt) (S := RN) (me_ixLV (me_fld c.cls c.n4 (me_var 0) hi rfl) (me_var 1) hLc (by rw [atNat]; exact hc0)) hT0) (fun d _ => prPr d) (fun e => decide (0 < e.2)) (fun e => (e.1, true)) (small1000 (show 1 ≤ 1000 by decide)) (by decide) (fun e u z H3 hd x3 hy => ⟨by
            have hz : z = .int ((e.2 : Nat) : Int) := hy.2
            subst hz
            intro _ _ _ _ _
            refine (mt_cI op_gt (me_var 5) me_int).is ?_
            simp, fun _ => by
            intro _ _ _ _ _
            exact (mn_tup (Ps := [RSt e.1, Is (.bl true)]) (ma_cons (me_is (me_var 4) hy.1) (ma_cons me_bl ma_nil)) (moCons (moCons moNil)) (by simp)).me.imp fun v H x ⟨t, xs, h1, h2, h3⟩ => by
              obtain ⟨u, z, rfl, h4, h5⟩ := p2 h3
              exact ⟨t, u, z, h1, .inl h2, h4, h5⟩⟩) scRowsB.nd (blkOk_by (N := nRowsB) (sc := defScope sFittingRowsBetween) (by decide +kernel))).me (by
                rw [e1]
                simp)) fun p0 c1 H1 H2 np0 x1 _ cne nc1 hc1 b2 t2 x2 hD => ?_))
    have r0 : RowsAt P w p0 (rowsAt d 0) H2 := ⟨_, hD, .cons ⟨rfl, cne, dxKeep hc1 b2 t2 cne⟩ .nil⟩
    -- for size in range(first, behind)
    refine wss_cons (ws_for (fun _ => False) (fun i σ H3 => ∃ p g4 g5 g6 g7 g8 g9 g10 g11 g12, σ = [some (.ref a), some (.int ((0 : Nat) : Int)), some (.int (d.th.length : Int)), some (.ref p), g4, g5, g6, g7, g8, g9, g10, g11, g12] ∧ Ex H H3 ∧ RowsAt P w p (rowsAt d i) H3)
      (mi_range2 (H := H) (i0 := ((0 : Nat) : Int)) (j := (d.th.length : Int)) B.range (me_var 1) (me_var 2) (by omega)) x2 (fun b e => e.elim) PassesOwn.never rfl
      (fun H3 x3 => ⟨p0, _, _, _, _, _, _, _, _, _, rfl, x2.trans x3, r0.mo x3⟩) (fun i z σ H3 H4 hi' ⟨p, g4, g5, g6, g7, g8, g9, g10, g11, g12, e, b3, hrw⟩ x4 hz => ?_) fun σ H3 ⟨p, g4, g5, g6, g7, g8, g9, g10, g11, g12, e, b3, hrw⟩ => ?_)
    · subst e
      have hz' : z = .int ((i : Nat) : Int) := by
        rw [hz]
        simp
      subst hz'
      have hin : i < d.th.length := by omega
      have x04 := b3.trans x4
      have hg4 := MoR.mo (R := RGF C P w) x04 hg
      have hi4 := x04 _ _ hi
      have ht4 := MoR.mo (R := Tu RI) x04 ht
      obtain ⟨ds, hD4, hP4⟩ := hrw.mo x4
      have len4 : ds.length = (rowsAt d i).length := pLen hP4
      refine wg_name 6 scRowsB.nd ?_
      -- found = {}
      refine wss_cons (ws_set 7 scRowsB.nd (MN.we (mn_x0 (enc := encRow) (KR := Tu RI) (S := RA)) fun pF H5 nF x5 hF => ?_))
      have hFp : H5 pF ≠ none := dxAddr hF
      -- for row, states in rows.items()
      refine wss_cons (ws_for (· = pF) (fun j σ H6 => ∃ g4 g5 g8 g9 g10 g11 g12, σ = [some (.ref a), some (.int ((0 : Nat) : Int)), some (.int (d.th.length : Int)), some (.ref p), g4, g5, some (.int ((i : Nat) : Int)), some (.ref pF), g8, g9, g10, g11, g12] ∧ ExB (· = pF) H5 H6 ∧ Ex H4 H6 ∧ RowsAt P w pF (((rowsAt d i).take j).flatMap (extR d i)) H6)
        (mi_xitems (enc := encRow) (KR := Tu RI) (S := RA) (H := H4) (me_var 3) hD4) x5 (fun b e => by rw [e]; exact ⟨nF, hFp⟩) PassesOwn.never rfl
        (fun H6 x6 => ⟨_, _, _, _, _, _, _, rfl, ExB.of x6, x5.trans x6, ⟨[], MoR.mo (R := Dx P w encRow (Tu RI) RA) x6 hF, .nil⟩⟩) (fun j y σ H6 H7 hj ⟨g4, g5, g8, g9, g10, g11, g12, e, b6, e6, hacc⟩ x7 ⟨dd, hdd, T, vr, vs, ey, hT, hrow, hvs⟩ => ?_) fun σ H6 ⟨g4, g5, g8, g9, g10, g11, g12, e, b6, e6, hacc⟩ => ?_)
      · subst e
        subst ey
        have hvs' : vs = .ref dd.2 := hvs
        subst hvs'
        have hjr : j < (rowsAt d i).length := by omega
        obtain ⟨r, hr1⟩ : ∃ r, (rowsAt d i)[j]? = some r := ⟨_, List.getElem?_eq_getElem hjr⟩
        obtain ⟨dd', hdd', ek, _, hst4⟩ := pAt hP4 hr1
        rw [hdd] at hdd'
        cases hdd'
        have rm := List.mem_of_getElem? hr1
        have ok := rowsOk hpos i (by omega) r rm
        have lok := lvlLast d i r.2 ok.lv
        rw [ek] at hrow
        refine wg_tup rfl hT (wgs_cons (wg_name 8 scRowsB.nd (wgs_cons (wg_name 9 scRowsB.nd (wgs_nil ?_)))))
        have e7 := e6.trans x7
        have hacc7 := hacc.mo x7
        -- for bits, last in states
        refine wss_one (ws_for (· = pF) (fun k σ H8 => ∃ g4 g10 g11 g12, σ = [some (.ref a), some (.int ((0 : Nat) : Int)), some (.int (d.th.length : Int)), some (.ref p), g4, g5, some (.int ((i : Nat) : Int)), some (.ref pF), some vr, some (.ref dd.2), g10, g11, g12] ∧ ExB (· = pF) H7 H8 ∧ Ex H4 H8 ∧ RowsAt P w pF (((rowsAt d i).take (j + k)).flatMap (extR d i)) H8)
          (mi_xkeys (enc := encSt) (KR := RSt) (S := RB) (H := H4) (me_var 9) hst4) e7 (fun b e => by rw [e]; exact ⟨nF, by obtain ⟨ds', hD', _⟩ := hacc7; exact dxAddr hD'⟩) PassesOwn.never rfl
          (fun H8 x8 => ⟨_, _, _, _, rfl, ExB.of x8, e7.trans x8, hacc7.mo x8⟩) (fun k y σ H8 H9 hk ⟨g4, g10, g11, g12, e, b8, e8, hac8⟩ x9 ⟨st, hst, T2, ey, hT2⟩ => ?_) fun σ H8 ⟨g4, g10, g11, g12, e, b8, e8, hac8⟩ => ?_)
        · subst e
          subst ey
          have k0 : k = 0 := by
            have : k < 1 := hk
            omega
          subst k0
          have est : st = r.2 := (Option.some.inj hst).symm
          subst est
          refine wg_tup rfl hT2 (wgs_cons (wg_name 10 scRowsB.nd (wgs_cons (wg_name 11 scRowsB.nd (wgs_nil ?_)))))
          have e9 := e8.trans x9
          have hac9 := hac8.mo x9
          have hg9 := MoR.mo (R := RGF C P w) e9 hg4
          have hi9 := e9 _ _ hi4
          have hF9 : H9 pF ≠ none := by
            obtain ⟨ds', hD', _⟩ := hac9
            exact dxAddr hD'
          have hgo := goneFull hin ok.lv
          -- for state in self.gone_on(size, bits, last)
          refine wss_one (ws_forX (fun H10 m σ H11 => ∃ g4 g12, σ = [some (.ref a), some (.int ((0 : Nat) : Int)), some (.int (d.th.length : Int)), some (.ref p), g4, g5, some (.int ((i : Nat) : Int)), some (.ref pF), some vr, some (.ref dd.2), some (.int (r.2.1 : Int)), some (lastV r.2.2), g12] ∧ ExB (· = pF) H9 H11 ∧ Ex H4 H11 ∧ RowsAt P w pF (sofar d i j m r) H11)
            (mix_new (R := RSt) (ds := live d (d.th.length - (i + 1)) r.2) (mn_methD (⟨(d, fullT d), i, r.2⟩ : DG) (P0 := RGF C P w d) c.cls G2 hr (okgFull ho.good hin ok.lv) (me_var 0) hi9 rfl hg9 (ma_cons (me_var 6) (ma_cons (me_var 10) (ma_cons (me_var 11) ma_nil))) (hP := fun v H2 h => by rw [← hgo]; exact h))) PassesOwn.never rfl
            (fun H10 x10 => ⟨_, _, rfl, ExB.of x10, e9.trans x10, by
              have e : sofar d i j 0 r = ((rowsAt d i).take (j + 0)).flatMap (extR d i) := by
                unfold sofar
                simp
              rw [e]
              exact hac9.mo x10⟩) (fun H10 m y σ H11 H12 x10 hm ⟨g4, g12, e, b11, e11, hac⟩ x12 ⟨zz, hzz, hy⟩ => ?_) fun H10 σ H11 x10 ⟨g4, g12, e, b11, e11, hac⟩ => ?_)
          · subst e
            have zm := List.mem_of_getElem? hzz
            obtain ⟨⟨s, hs, ez⟩, _⟩ := liveMem zm
            have slt := nextsLt hs
            have e12 := e11.trans x12
            obtain ⟨ds12, hD12, hP12⟩ := hac.mo x12
            have l12 : ds12.length ≤ 200 := by
              rw [pLen hP12]
              exact Nat.le_trans (sofarLen hpos (by omega) hr1) few
            obtain ⟨T3, rfl, hT3⟩ := hy
            have hrow9 : Tu RI r.1 vr H9 := MoR.mo (R := Tu RI) x9 (Im.im (R := Tu RI) (hacc7.tk b8) hrow)
            have hrow12 : Tu RI r.1 vr H12 := MoR.mo (R := Tu RI) x12 (Im.im (R := Tu RI) (hac9.tk b11) hrow9)
            have lr := ok.len
            have eth : thAt d zz = d.th.getD s 0 := by
              unfold thAt
              rw [ez]
              rfl
            have hnew := sofarNew ho.nd hr1 hzz
            rw [← rowKeys hP12] at hnew
            refine wg_name 4 scRowsB.nd ?_
            -- longer = row + (self.threads[state[1]],)
            refine wss_cons (ws_set 12 scRowsB.nd (ME.we (me_cat (R := RI) (ds := r.1) (es' := [thAt d zz]) (me_is (me_var 8) hrow12) ((mn_tup (Ps := [RI (thAt d zz)]) (ma_cons (me_ixT (R := RI) (d := thAt d zz) (i := (s : Int)) (me_is (me_fld c.cls c.n1 (me_var 0) (e12 _ _ hi4) rfl) (MoR.mo (R := Tu RI) e12 ht4)) (me_ixTV (me_var 4) me_int hT3 (by rw [ez]; rfl)) ?_) ma_nil) (moCons moNil) (by simp)).me.imp fun v H x h => TuP.tu (ds := [thAt d zz]) h) ?_) fun y H13 x13 hy => ?_))
            · rw [atNat, eth, List.getD_eq_getElem?_getD, List.getElem?_eq_getElem slt]
              rfl
            · rw [lr]
              show i + 1 ≤ 1000
              omega
            have hD13 := MoR.mo (R := Dx P w encRow (Tu RI) RA) x13 hD12
            -- if longer not in found
            refine wss_cons (ws_if (MT.wt (k := true) (MT.is (mt_xnot (k := (ext1 d r zz).1) kRow hr (me_is (me_var 12) hy) (me_is (me_var 7) hD13)) (by rw [lkxFalse hnew]; rfl)) fun H14 x14 => iteT (wss_one ?_)))
            have hD14 := MoR.mo (R := Dx P w encRow (Tu RI) RA) x14 hD13
            have hy14 := MoR.mo (R := Tu RI) x14 hy
            have hP14 : Paired (fun (d : List Int × Addr) (r : Row) => d.1 = r.1 ∧ d.2 ≠ pF ∧ Dx P w encSt RSt RB [(r.2, true)] (.ref d.2) H14) ds12 (sofar d i j m r) := pImp (fun _ _ h => ⟨h.1, h.2.1, MoR.mo (R := Dx P w encSt RSt RB) (x13.trans x14) h.2.2⟩) hP12
            have hF14 : H14 pF ≠ none := dxAddr hD14
            -- found[longer] = {}
            refine ws_xputN (Q0 := Dx P w encSt RSt RB []) (k := (ext1 d r zz).1) kRow hr hD14 (me_var 7) (me_is (me_var 12) hy14) mn_x0 (by omega) fun c2 H15 H16 nc x15 hc15 b16 t16 hD16 => ?_
            have cp : c2 ≠ pF := fun z => by
              rw [z] at nc
              exact hF14 nc
            have hc16 := dxKeep hc15 b16 t16 cp
            have hy16 : Tu RI (ext1 d r zz).1 y H16 := Im.im (R := Tu RI) t16 (MoR.mo (R := Tu RI) x15 hy14)
            have hz16 : RSt zz (.ref T3) H16 := Im.im (R := RSt) t16 (show RSt zz (.ref T3) H15 from ⟨T3, rfl, rdMo (x13.trans (x14.trans x15)) hT3⟩)
            -- found[longer][state] = True
            refine wss_one (ws_xput (S := RB) (d := true) (k := zz) kSt hr hc16 (me_xget (S := RA) (d := c2) (k := (ext1 d r zz).1) kRow hr (me_is (me_var 7) hD16) (me_is (me_var 12) hy16) (by rw [putxNew hnew]; exact lkxPutNew hnew)) (me_is (me_var 4) hz16) (me_is me_bl (show RB true (.bl true) H16 from rfl)) (by simp) fun H17 b17 t17 h17 => ?_)
            have bAll : ExB (· = pF) H11 H17 := fun b o n e => b17 b o (fun z => by
              have z' : b = c2 := z
              rw [z'] at e
              have := (x12.trans (x13.trans x14)) _ _ e
              rw [nc] at this
              cases this) (b16 b o n ((x12.trans (x13.trans (x14.trans x15))) _ _ e))
            have tAll : Tk H11 H17 := (tkEx (x12.trans (x13.trans (x14.trans x15)))).trans (t16.trans t17)
            refine ⟨⟨_, _, rfl, b11.trans bAll, ExB.off (D := (· = pF)) e11 bAll fun b e => by rw [e]; exact nF, ?_⟩, bAll.sub fun b e => offNo (.inl ?_), tAll⟩
            · rw [sofarStep hzz]
              exact rowAdd hP14 (by rw [← rowKeys hP12]; exact hnew) x15 b16 t16 b17 t17 nc cp hD16 h17
            · have e' : b = pF := e
              rw [e']
              exact hF9
          · subst e
            refine ⟨⟨_, _, _, _, rfl, b8.trans ((ExB.of x9).trans b11), e11, ?_⟩, (ExB.of x9).trans b11⟩
            rw [sofarAll hr1] at hac
            exact hac
        · subst e
          exact ⟨⟨_, _, _, _, _, _, _, rfl, b6.trans ((ExB.of x7).trans b8), e8, hac8⟩, (ExB.of x7).trans b8⟩
      · subst e
        rw [len4, List.take_length] at hacc
        obtain ⟨ds6, hD6, hP6⟩ := hacc
        have l6 : ds6.length ≤ 200 := by
          rw [pLen hP6]
          exact Nat.le_trans (rowsLen (i := i + 1) hpos (by omega)) few
        -- if len(found) > MOST_TOLD
        refine wss_cons (ws_if (MT.wt (k := false) (MT.is (mt_cI op_gt (me_xlen (S := RA) kRow B (me_is (me_var 7) hD6)) (me_gi ct)) (decide_eq_false (by omega))) fun H7 x7 => iteF (wss_nil ?_)))
        -- rows = found
        refine wss_one (ws_set 3 scRowsB.nd (ME.we (me_var 7) fun u H8 x8 e => ⟨⟨pF, g4, g5, some (.int ((i : Nat) : Int)), some (.ref pF), g8, g9, g10, g11, g12, ?_, ?_, ?_⟩, ?_⟩))
        · have e' : u = V.ref pF := e
          rw [e']
          rfl
        · exact b3.trans (x4.trans (e6.trans (x7.trans x8)))
        · exact RowsAt.mo (show RowsAt P w pF (rowsAt d (i + 1)) H6 from ⟨ds6, hD6, hP6⟩) (x7.trans x8)
        · exact ExB.of (x4.trans (e6.trans (x7.trans x8)))
    · subst e
      have e2 : (((d.th.length : Nat) : Int) - ((0 : Nat) : Int)).toNat = d.th.length := by omega
      rw [e2] at hrw
      obtain ⟨ds3, hD3, hP3⟩ := hrw
      have ek := rowKeys hP3
      -- return sorted(list(rows))
      refine wss_one (ws_ret (MN.we (mn_sortedRows B (Nat.lt_of_le_of_lt (Nat.le_add_right _ (16 * 2 + 134)) (by have := hr.un; rw [Nat.add_assoc]; exact (show (A.deeper _).units + (16 * 2 + 200) < cLine by rw [← Nat.add_assoc]; exact this))) (mn_xlist (enc := encRow) (KR := Tu RI) (S := RA) B rfl (me_is (me_var 3) hD3)).me (fun r hr1 => ?_)) fun b H4 nb x4 r => q b H4 (Evl.fresh_back b3 nb) (b3.trans x4) ?_))
      · rw [ek] at hr1
        obtain ⟨r', hr', rfl⟩ := List.mem_map.mp hr1
        have := (rowsOk hpos d.th.length (Nat.le_refl _) r' hr').len
        have hne := ho.ne
        intro e
        rw [e] at this
        rw [← this] at hne
        exact Nat.lt_irrefl _ hne
      · rw [ek] at r
        exact r
end
end Wk
set_option Elab.async false
set_option linter.all false
set_option maxRecDepth 100000
set_option maxHeartbeats 4000000
/-! What is raised, what is caught. -/
namespace Wk
open PySem PySem.Spec PyProof.Rows L2
/-! ### clauses, some with a name -/
abbrev Suit := Addr → Value → Option Addr → TS
/-- the slot of the name goes at the end -/
def goneAt (i : Nat) (D : Ends) : Ends := { nx := fun τ G => D.nx (τ.set i none) G, rt := D.rt, bk := fun τ G => D.bk (τ.set i none) G, ct := fun τ G => D.ct (τ.set i none) G }
def wMix (K : PySem.W.Frag) (Wo : WX) (D : Ends) : List (Value × Option Nat × Suit) → WX
  | [] => Wo
  | (c, none, ts) :: r => fun cls d τ G => ∃ k, PySem.W.exmOne K cls c = some k ∧ (k = true → ∀ a, G a = none → ts a cls d D τ G) ∧ (k = false → wMix K Wo D r cls d τ G)
  | (c, some i, ts) :: r => fun cls d τ G => ∃ k, PySem.W.exmOne K cls c = some k ∧ (k = true → ∀ a, G a = none → ts a cls d (goneAt i D) (τ.set i (some (.ref a))) G) ∧ (k = false → wMix K Wo D r cls d τ G)
abbrev SuitOk (X : Cx) (suite : List Stmt) (ts : Suit) : Prop := ∀ (a : Addr) (oe : Obj) (cls : Value) (d : Option Addr) (pn : List (Addr × Obj)), Zc cls d oe → (∃ vs, oe.data = .fields vs) → PSs (X.suite a ((a, oe) :: pn)) suite (ts a cls d)
inductive HdX (X : Cx) : List ExceptHandler → List (Value × Option Nat × Suit) → Prop
  | nil : HdX X [] []
  | plain {x : Str} {c : Value} {ts : Suit} {u : Stmt} {us : List Stmt} {np q : Pos} {hs : List ExceptHandler} {l : List (Value × Option Nat × Suit)} (nm : Names X x c) (su : SuitOk X (u :: us) ts) (r : HdX X hs l) :
      HdX X (.ExceptHandler (some (.Name x np)) none (u :: us) q :: hs) ((c, none, ts) :: l)
  | named {x n : Str} {i : Nat} {c : Value} {ts : Suit} {u : Stmt} {us : List Stmt} {np q : Pos} {hs : List ExceptHandler} {l : List (Value × Option Nat × Suit)} (hN : X.N.Nodup) (hi : X.N[i]? = some n) (ln : X.env.kindOf n = some .local) (nm : Names X x c) (su : SuitOk X (u :: us) ts) (r : HdX X hs l) :
      HdX X (.ExceptHandler (some (.Name x np)) (some n) (u :: us) q :: hs) ((c, some i, ts) :: l)
section
variable {X : Cx} {body : List Stmt} {hd0 : ExceptHandler} {hds : List ExceptHandler} {l : List (Value × Option Nat × Suit)} {pos : Pos} {tb : WX → TS} {Wo : WX}
theorem ps_try_mix (st : X.stack = X.env :: X.outer) (fr : X.env.frame = some X.env.locals) (tk : Takes X Wo)
    (bd : ∀ (W : WX) (pn : List (Addr × Obj)) (xe : Value → Shared → Prop), Takes (X.tr pn xe) W → PassesOwn (model X.prog X.w) X.A X.env xe → PSs (X.tr pn xe) body (tb W)) (hk : HdX X (hd0 :: hds) l) :
    PS X (.Try body (hd0 :: hds) [] [] pos) (fun D τ G => tb (wMix X.K Wo D l) D τ G) := by
  refine ⟨fun pins s τ G D I start => ?_⟩
  have fine := I.ok
  have frs' : X.A.frames = some (X.env :: X.outer) := by rw [fine.frames, st]
  refine wpAny_Try_except (wpAny_mono ((bd (wMix X.K Wo D l) (X.pn ++ pins) (fun e z₁ => wpAny (model X.prog X.w) X.A (noteFrame e X.env) (fun _ z₂ => wpAny (model X.prog X.w) X.A (setFlight e none) (fun _ z₃ =>
    wpAny (model X.prog X.w) X.A (handleBy e X.env (hd0 :: hds)) (SP X pins D) X.xe z₃) X.xe z₂) X.xe z₁) (fun u z xx => ?_) PassesOwn.looking).run [] s τ G D (I.toTry _) start) (fun f z endd => ?_) (fun e z he => he))
  · obtain ⟨a, B, zI, pins2, τ1, G1, cls, d, rfl, J0, nb, up0, sky0, na, osq, bare, wish⟩ := xx
    have J : Inv X pins τ1 G1 zI := J0.ofTry fine
    have sky1 : Sky B (X.env :: X.outer) a (Zc cls d) X.env.locals z.heap := by rw [← st]; exact sky0
    show wpAny (model X.prog X.w) X.A (noteFrame (.ref a) X.env) _ _ _
    refine Sky.land Zc.steady frs' fr sky1 fun g fl upg => ?_
    have Jg : Inv X pins τ1 G1 { z with heap := g } := J.landed nb fl.1 (up0.trans upg) osq bare
    obtain ⟨og, vg, hog, hzg, hdg⟩ := fl.there
    have out : a ∉ frs (X.env :: X.outer) := fun hm => by
      obtain ⟨_, o2, e2, no⟩ := fl.2.2.1.mem hm
      rw [hog] at e2
      cases e2
      exact no _ hdg
    have notL : a ≠ X.env.locals := fun e => out (List.mem_filterMap.mpr ⟨X.env, List.mem_cons_self, by rw [fr, e]⟩)
    have notF : a ∉ X.fs := fun hm => by
      obtain ⟨e, he, hq⟩ := List.mem_filterMap.mp hm
      exact out (List.mem_filterMap.mpr ⟨e, List.mem_cons_of_mem _ he, hq⟩)
    have Sg := Jg.suite hog hdg na notL notF
    have LT : PySem.W.Looks (model X.prog X.w) g (typeOf (.ref a)) cls := fun A Q E s k q => wpAny_typeOf_ref (k _ _ hog) (by rw [hzg.1]; exact q)
    have ask : ∀ {x : Str} {c : Value} {np : Pos} {Q : Value → Shared → Prop} {E : Value → Shared → Prop}, Names X x c → Q c { z with heap := g } → wpAny (model X.prog X.w) (X.A.mark (some (.ref a))) (eval (.Name x np) X.env) Q E { z with heap := g } := fun {x c np Q E} nm q => by
      obtain ⟨n1, n2, n3 | ⟨n3, n4, n5⟩⟩ := nm
      · exact ld_glob (X := X.suite a ((a, og) :: (X.pn ++ pins))) Sg n1 n3 q n2
      · exact ld_blt (X := X.suite a ((a, og) :: (X.pn ++ pins))) Sg n1 n3 n4 q n5 n2
    have run : ∀ {hs2 : List ExceptHandler} {l2 : List (Value × Option Nat × Suit)}, HdX X hs2 l2 → wMix X.K Wo D l2 cls d τ1 G1 → wpAny (model X.prog X.w) X.A (handleBy (.ref a) X.env hs2) (SP X pins D) X.xe { z with heap := g } := by
      intro hs2 l2 h2
      induction h2 with
      | nil =>
        intro wi
        refine wpAny_handleBy_nil ?_
        obtain ⟨k1, k2, k3, oe, vs, T, oT, ts2, e1, e2, e3, e4, e5⟩ := id fl
        unfold PySem.passOn
        refine wpAny_bind (wpAny_field e1 e3 e4 ?_)
        rw [if_neg (show ¬ ((Value.ref T == Value.none) = true) by simp)]
        have last : wpAny (model X.prog X.w) X.A (setFlight (.ref a) X.env.frame) (fun _ z4 => wpAny (model X.prog X.w) X.A (throw (.ref a) : Sem Flow) (SP X pins D) X.xe z4) X.xe { z with heap := g } := by
          rw [fr]
          exact HandSPX.setFlight_upZ fl fun g4 f4 up4 => wpAny_throw (tk _ _ ⟨a, B, zI, pins, τ1, G1, cls, d, rfl, J, nb, (up0.trans upg).trans up4, .inr (.inr (by rw [st]; exact f4)), na, osq, bare, wi⟩)
        first
          | exact wpAny_bind (wpAny_pure (wpAny_bind last))
          | exact wpAny_bind last
      | @plain x c ts u us np q hs3 l3 nm su r ih =>
        intro wi
        obtain ⟨k, k1, yes, no⟩ := wi
        refine wpAny_handleBy_cons (codeAny_handlers_test (ask nm ((PySem.W.exm_one (M := model X.prog X.w) Jg.kIn LT k1).here ?_))) (by intro q; cases q)
        cases k with
        | true =>
          refine codeAny_handlers_suite (HandSPX.lands_againZ fl fun g4 fl4 up4 => ?_)
          have J4 : Inv X pins τ1 G1 { z with heap := g4 } := J.landed nb fl4.1 ((up0.trans upg).trans up4) osq bare
          obtain ⟨o4, v4, e4, z4, d4⟩ := fl4.there
          refine wpAny_mono ((su a o4 cls d (X.pn ++ pins) z4 ⟨_, d4⟩).run [] _ _ G1 _ (J4.suite e4 d4 na notL notF) (yes rfl a na)) (fun f z6 h6 => ?_) (fun _ _ ff => False.elim ff)
          cases f with
          | ret v =>
            obtain ⟨v6, τ6, G6, S6, r6, q6⟩ := h6
            exact ⟨_, _, _, S6.unsuite fine, r6, q6⟩
          | next | brk | cont =>
            obtain ⟨τ6, G6, S6, q6⟩ := h6
            exact ⟨_, _, S6.unsuite fine, q6⟩
        | false =>
          show wpAny _ X.A (handleBy (.ref a) X.env hs3) _ _ _
          exact ih (no rfl)
      | @named x n i c ts u us np q hs3 l3 hN hi ln nm su r ih =>
        intro wi
        obtain ⟨k, k1, yes, no⟩ := wi
        refine wpAny_handleBy_cons (codeAny_handlers_test (ask nm ((PySem.W.exm_one (M := model X.prog X.w) Jg.kIn LT k1).here ?_))) (by intro q; cases q)
        cases k with
        | true =>
          refine codeAny_handlers_suite_as (HandSPX.lands_againZ fl fun g4 fl4 up4 => ?_)
          have J4 : Inv X pins τ1 G1 { z with heap := g4 } := J.landed nb fl4.1 ((up0.trans upg).trans up4) osq bare
          obtain ⟨o4, v4, e4, z4, d4⟩ := fl4.there
          refine store_ok (X := X.suite a ((a, o4) :: (X.pn ++ pins))) (v := .ref a) (J4.suite e4 d4 na notL notF) hN hi (.inl ln) rfl (fun z5 S5 => ?_) (.inr ln)
          refine wpAny_mono ((su a o4 cls d (X.pn ++ pins) z4 ⟨_, d4⟩).run [] z5 _ G1 _ S5 (yes rfl a na)) (fun f z6 h6 => ?_) (fun _ _ ff => False.elim ff)
          have fin : ∀ {τ6 : L2.St} {G6 : Hp} {Q : Shared → Prop}, Inv (X.suite a ((a, o4) :: (X.pn ++ pins))) [] τ6 G6 z6 → (∀ z7, Inv X pins (τ6.set i none) G6 z7 → Q z7) →
              wpAny (model X.prog X.w) X.A (do bindName X.env n .none; unbindBehindTheSuite X.env n q) (fun _ z7 => Q z7) X.xe z6 := fun {τ6 G6 Q} S6 hq => gone_ok (S6.unsuite fine) hN hi ln hq
          cases f with
          | ret v =>
            obtain ⟨v6, τ6, G6, S6, r6, q6⟩ := h6
            exact fin S6 fun z7 J7 => ⟨_, _, _, J7, r6, q6⟩
          | next | brk | cont =>
            obtain ⟨τ6, G6, S6, q6⟩ := h6
            exact fin S6 fun z7 J7 => ⟨_, _, J7, q6⟩
        | false =>
          show wpAny _ X.A (handleBy (.ref a) X.env hs3) _ _ _
          exact ih (no rfl)
    exact run hk wish
  · cases f with
    | next =>
      obtain ⟨τ1, G1, J1, q⟩ := endd
      exact wpAny_execs_nil ⟨τ1, G1, J1.ofTry fine, q⟩
    | brk | cont =>
      obtain ⟨τ1, G1, J1, q⟩ := endd
      exact ⟨τ1, G1, J1.ofTry fine, q⟩
    | ret u =>
      obtain ⟨v, τ1, G1, J1, r, q⟩ := endd
      exact ⟨v, τ1, G1, J1.ofTry fine, r, q⟩
end
/-! ### by meaning -/
section
variable {X : Cx} {e : Expr} {es : List Expr} {σ : L2.St} {H : Hp} {D : Ends} {pos p : Pos} {body : List Stmt} {hd0 : ExceptHandler} {hds : List ExceptHandler} {l : List (Value × Option Nat × Suit)}
/-- a suite by its meaning -/
def sM (X : Cx) (suite : List Stmt) : Suit := fun a cls d => fun D τ G => ∀ (oe : Obj) (pn : List (Addr × Obj)), Zc cls d oe → (∃ vs, oe.data = .fields vs) → WSs (X.suite a ((a, oe) :: pn)) suite D τ G
theorem sMok {suite : List Stmt} : SuitOk X suite (sM X suite) := fun a oe cls d pn hz hf => ⟨fun pins s _ _ _ I h => h oe pn hz hf pins s I⟩
/-- the body in a try -/
def bM (X : Cx) (body : List Stmt) (W : WX) : TS := fun D τ G => ∀ (pn : List (Addr × Obj)) (xe : Value → Shared → Prop), Takes (X.tr pn xe) W → PassesOwn (model X.prog X.w) X.A X.env xe → WSs (X.tr pn xe) body D τ G
def noW : WX := fun _ _ _ _ => False
theorem ws_try (hk : HdX X (hd0 :: hds) l) (h : bM X body (wMix X.K noW D l) D σ H) (st : X.stack = X.env :: X.outer := by rfl) (fr : X.env.frame = some X.env.locals := by rfl) : WS X (.Try body (hd0 :: hds) [] [] pos) D σ H :=
  .of (ps_try_mix (Wo := noW) (tb := bM X body) st fr L2.takes0 (fun W pn xe tk po => ⟨fun pins s _ _ _ I h => h pn xe tk po pins s I⟩) hk) h
theorem ws_raise {W : WX} {t : L2.St → Hp → XK → Prop} (tk : Takes X W) (he : PMk X e t) (h : t σ H fun cls d H' => W cls d σ H') (hc : X.calm = true := by rfl) : WS X (.Raise (some e) none pos) D σ H := .of (ps_raise hc tk he) h
/-- a call that may let something out -/
theorem we_callX {k : Nat} {ps : List Str} {sp : Sp} {x : Str} {W : WX} {Q : VK} (F : Has X.prog X.w X.K X.mg X.base (L2.CX X.prog X.w) x k ps sp) (hr : Room k X.A) (tk : Takes X W) (ha : WA X (e :: es) σ H fun vs H1 => sp vs H1 Q fun cls d H' => W cls d σ H') (hg : Gl X x := by rfl)
    (hdb : (x == ("__debug__" : Str)) = false := by decide) (he : starEach (e :: es) X.env = (false, eval e X.env) :: starEach es X.env := by rfl) (hpl : (backTo pos (starEach es X.env)).any (·.1) = false := by rfl) : WE X (.Call (.Name x p) (e :: es) [] pos) σ H Q := by
  obtain ⟨f, fd, h1, h2, h3, h4⟩ := F.ex
  exact .of (pe_callS h1 hr hg h2 h3 h4 (E := fun τ => fun cls d H' => W cls d τ H') (fun τ => passAt tk τ) pa_wa hdb he hpl) ha
/-- an own exception class without __init__ -/
structure ExF (K : PySem.W.Frag) (mg : Str → Option Value) (x : Str) (C : Addr) : Prop where
  gC : mg x = some (.ref C)
  q : PySem.W.excIn K C He.veBase "ValueError.__new__" = true
  kC : PySem.W.keepIn K (.ref C) = true
  sub : PySem.W.subIn K (.ref C) (.type "BaseException") = some true
  typ : PySem.W.typeIn K (.ref C) = some (.type "type")
theorem pmkF {x m : Str} {j : Nat} {p2 : Pos} {C : Addr} (F : ExF X.K X.mg x C) (hg : Gl X x := by rfl) (hdb : (x == ("__debug__" : Str)) = false := by decide) : PMk X (.Call (.Name x p) [.Constant (.str m) j p2] [] pos) (fun _ H Q => Q (.ref C) none H) :=
  pmk_own PySem.F.excBase_ValueError F.q F.gC F.kC (raises_own F.sub F.typ) hg hdb
end
/-! ### defs that may let something out -/
section
variable {P : Program} {w : World} {K : PySem.W.Frag} {mg : Str → Option Value} {base : Heap}
abbrev cxE (P : Program) (w : World) (K : PySem.W.Frag) (mg : Str → Option Value) (base : Heap) (N : List Str) (x : Str) (st : Stmt) (f : Addr) (cdv : Value) (A : Around) (outer : List Env) (s : Shared) (H : Hp) (E : XK) : Cx := cxOf (L2.CX P w) P w K mg base N x (defScope st) f cdv A outer s H E
theorem Has.mkE {x : Str} {st : Stmt} {N ps : List Str} {k : Nat} {sp : Sp} (D : Df K mg x st) (S : FnScope N ps (defScope st)) (bn : Bnd x st ps) (len : ∀ vs H Q E, sp vs H Q E → vs.length = ps.length)
    (body : ∀ (f : Addr) (cdv : Value) (A : Around) (outer : List Env) (s : Shared) (H : Hp) (vs : List V) (Q : VK) (E : XK), Room k (A.deeper (envOfC x (defScope st) s.heap.objs.size f cdv)) → sp vs H Q E → Takes (cxE P w K mg base N x st f cdv A outer s H E) (fun cls d _ G => E cls d G) →
      WSs (cxE P w K mg base N x st f cdv A outer s H E) (defBody st) { nx := fun _ H' => Q .non H', rt := Q } (start N vs) H) : Has P w K mg base (L2.CX P w) x (k + 1) ps sp := by
  obtain ⟨f, fd, F, gm⟩ := D.ex
  exact ⟨f, fd, F.ok S len fun cdv A outer s H vs Q E hr h => ⟨_, pss_wss, body f cdv A outer s H vs Q E hr h (takes_of rfl rfl rfl rfl)⟩, gm, F.kp, F.bindsN bn⟩
end
end Wk
set_option Elab.async false
set_option linter.all false
set_option maxRecDepth 100000
set_option maxHeartbeats 4000000
/-! orders, told_order. -/
namespace Wk
open PySem PySem.Spec PyProof.Rows L2
/-- how many orders fit -/
def total (k : Kept) : Nat := cnt (fdOf k) (fdOf k).th.length (0, none)
def ordersOf (k : Kept) : List (List Int) := if 0 < total k then (rowsAt (fdOf k) (fdOf k).th.length).map (·.1) else []
def toldOf (k : Kept) : Option (List Int) := if total k = 1 then some (firstO (fdOf k)) else none
structure OkO (k : Kept) : Prop extends Few k where
  ne : 0 < k.threads.length
theorem OkO.nd {k : Kept} (h : OkO k) : k.threads.Nodup := h.good.thr.nd
section
variable {P : Program} {w : World} {K : PySem.W.Frag} {mg : Str → Option Value} {base : Heap} {C : Addr}
def spOrders (CT : Addr) : Sp := fun vs H Q E => ∃ (v : V) (k : Kept), vs = [v] ∧ RKK k v H ∧ OkO k ∧ (total k ≤ 200 → ∀ u H', Ex H H' → RPm (ordersOf k) u H' → Q u H') ∧ (200 < total k → ∀ H', Ex H H' → E (.ref CT) none H')
theorem scOrders : FnScope ["kept", "found"] ["kept"] (defScope sOrders) := ⟨rfl, rfl, rfl, by decide +kernel, rfl, by decide +kernel, by decide +kernel⟩
theorem hOrders {CT : Addr} (B : Bl mg) (c : FC K C) (T : ExF K mg "TooMany" CT) (D : Df K mg "orders" sOrders) (G0 : Has P w K mg base CX0 "fitting" 8 ["kept"] (spFitting C P w)) (G1 : HasM P w K mg base CX0 C "many" 1 ["self"] (spMany C P w)) (G2 : HasM P w K mg base CX0 C "rows_between" 3 ["self", "first", "behind"] (spRowsB C P w))
    (ct : ∃ t, mg "MOST_TOLD" = some (.int 200 t)) : Has P w K mg base (L2.CX P w) "orders" 9 ["kept"] (spOrders CT) :=
  .mkE D scOrders (fun _ _ _ _ _ _ us hl => match us, hl with | [_], _ => rfl) (fun vs H Q E ⟨_, _, h, _⟩ => by rw [h]; rfl) fun f cdv A outer s H vs Q E hr h tk => by
    obtain ⟨v, k, rfl, hk, ok, q1, q2⟩ := h
    -- found = fitting(kept)
    refine wss_cons (ws_set 1 scOrders.nd (MN.we (mn_callD k G0 hr ok.toFew (ma_cons (me_is (me_var 0) hk) ma_nil) (P' := RGF C P w (fdOf k))) fun a H1 na x1 hg => ?_))
    have hg0 := hg
    obtain ⟨a', dx, vt, pA, pB, pL, e, hi, ht, hA, hB, hL⟩ := hg
    cases e
    have gm := goodMany (fdOf k)
    -- if found.many() > MOST_TOLD
    refine wss_cons (ws_if (MT.wt (mt_cI op_gt (me_methD0 (⟨(fdOf k, fullT (fdOf k)), total k⟩ : DM) (P0 := RGF C P w (fdOf k)) c.cls G1 (hr.mono (by decide)) gm (me_var 1) hi rfl hg0) (me_gi ct)) fun H2 x2 => ?_))
    by_cases hb : 200 < total k
    · rw [decide_eq_true (by simp only []; omega)]
      exact iteT (wss_one (ws_raise tk (pmkF T) (q2 hb H2 (x1.trans x2))))
    · rw [decide_eq_false (by simp only []; omega)]
      refine iteF (wss_nil ?_)
      have few : total k ≤ 200 := by omega
      have hg2 := MoR.mo (R := RGF C P w) x2 hg0
      have hi2 := x2 _ _ hi
      have ht2 : Tu RI (fdOf k).th vt H2 := MoR.mo (R := Tu RI) x2 ht
      refine wss_one (ws_ret (ME.we (P := RPm (ordersOf k)) (me_if (mt_cI op_gt (me_methD0 (⟨(fdOf k, fullT (fdOf k)), total k⟩ : DM) (P0 := RGF C P w (fdOf k)) c.cls G1 (hr.mono (by decide)) gm (me_var 1) hi2 rfl hg2) me_int) (fun e => ?_) (fun e => ?_)) fun u H3 x3 p => q1 few u H3 (x1.trans (x2.trans x3)) p))
      · have e' : 0 < total k := by
          have := of_decide_eq_true e
          simp only [] at this
          omega
        unfold ordersOf
        rw [if_pos e']
        exact (mn_methD (fdOf k) (P0 := RGF C P w (fdOf k)) c.cls G2 (hr.mono (by decide)) ⟨⟨goodF ok.good.thr.len, ok.len, e'⟩, ok.nd, few, ok.ne⟩ (me_var 1) hi2 rfl hg2 (ma_cons me_int (ma_cons (me_lenT B (me_is (me_fld c.cls c.n1 (me_var 1) hi2 rfl) ht2)) ma_nil))).me
      · have e' : ¬ 0 < total k := by
          have := of_decide_eq_false e
          simp only [] at this
          omega
        unfold ordersOf
        rw [if_neg e']
        exact (mn_lst ma_nil moNil (Nat.zero_le _)).me.imp fun v H' _ h => by
          obtain ⟨p, xs, e1, e2, e3⟩ := h
          cases e3
          exact ⟨[], .refl _, p, [], e1, e2, .nil⟩
/-! ### told_order -/
def TOpt : Option (List Int) → Pv
  | some o => TuK o
  | none => Is .non
instance {o : Option (List Int)} : Mo (TOpt o) := by
  cases o with
  | none => exact inferInstanceAs (Mo (Is .non))
  | some o => exact inferInstanceAs (Mo (TuK o))
abbrev spTold : Sp := SpD (δ := Kept) (fun d => [RKK d]) OkO fun k => TOpt (toldOf k)
theorem scTold : FnScope ["kept", "found"] ["kept"] (defScope sToldOrder) := ⟨rfl, rfl, rfl, by decide +kernel, rfl, by decide +kernel, by decide +kernel⟩
theorem hTold (B : Bl mg) (c : FC K C) (D : Df K mg "told_order" sToldOrder) (G0 : Has P w K mg base CX0 "fitting" 8 ["kept"] (spFitting C P w)) (G1 : HasM P w K mg base CX0 C "many" 1 ["self"] (spMany C P w)) (G2 : Has P w K mg base CX0 "first_in" 3 ["found"] (spFirst C P w)) : Has P w K mg base CX0 "told_order" 9 ["kept"] spTold :=
  .mkD D scTold (fun _ _ _ _ _ _ us hl => match us, hl with | [_], _ => rfl) (fun _ => rfl) fun f cdv A outer s H vs Q E d hr ok ha q => by
    obtain ⟨v, rfl, hk⟩ := p1 ha
    refine wss_cons (ws_set 1 scTold.nd (MN.we (mn_callD d G0 hr ok.toFew (ma_cons (me_is (me_var 0) hk) ma_nil) (P' := RGF C P w (fdOf d))) fun a H1 na x1 hg => ?_))
    have hg0 := hg
    obtain ⟨a', dx, vt, pA, pB, pL, e, hi, ht, hA, hB, hL⟩ := hg
    cases e
    refine wss_one (ws_ret (ME.we (P := TOpt (toldOf d)) (me_if (mt_eqS (me_methD0 (⟨(fdOf d, fullT (fdOf d)), total d⟩ : DM) (P0 := RGF C P w (fdOf d)) c.cls G1 (hr.mono (by decide)) (goodMany (fdOf d)) (me_var 1) hi rfl hg0) me_int) (fun e => ?_) (fun e => ?_)) fun u H3 x3 p => q u H3 (x1.trans x3) p))
    · have e' : total d = 1 := by
        have := V.int.inj (of_decide_eq_true e)
        simp only [] at this
        omega
      unfold toldOf
      rw [if_pos e']
      exact me_callD (fdOf d) G2 (hr.mono (by decide)) ⟨goodF ok.good.thr.len, ok.len, show 0 < total d by omega⟩ (ma_cons (me_is (me_var 1) hg0) ma_nil)
    · have e' : ¬ total d = 1 := fun z => of_decide_eq_false e (by simp only []; rw [z]; rfl)
      unfold toldOf
      rw [if_neg e']
      exact me_non
end
end Wk
set_option Elab.async false
set_option linter.all false
set_option maxRecDepth 100000
set_option maxHeartbeats 4000000
/-! renamed, NotSure, tied. -/
namespace Wk
open PySem PySem.Spec PyProof.Rows L2
def RU : Rp Unit := fun _ _ _ => True
instance : Im RU := ⟨fun _ _ => trivial⟩
section
variable {X : Cx} {a b e : Expr} {es : List Expr} {σ : L2.St} {H : Hp} {pos p p1 p2 : Pos}
theorem ME.any {P : Pv} (h : ME X e σ H P) : ME X e σ H Any := h.imp fun _ _ _ _ => trivial
theorem ME.unit {P : Pv} (h : ME X e σ H P) : ME X e σ H (RU ()) := h.imp fun _ _ _ _ => trivial
theorem me_str {m : Str} {j : Nat} : ME X (.Constant (.str m) j pos) σ H (Is (.str m)) := fun H1 _ Q q => .of pe_str (q _ H1 (exr H1) rfl)
/-- a class that takes __init__ from ValueError -/
structure WeC (K : PySem.W.Frag) (C : Addr) : Prop where
  sp : PySem.W.specialIn K (.ref C) "__getattribute__" = some (some (.builtin "type.__getattribute__"))
  typ : PySem.W.typeIn K (.ref C) = some (.type "type")
  rd : PySem.W.readsIn K C (.type "type") = true
  ini : PySem.W.findCls K (.ref C) (.type "type") "__init__" = some (.val (.builtin "ValueError.__init__"))
theorem pe_weinit {pl : Sem Bool} {x : Str} {W : Addr} {ta : TA} (hg : Gl X x) (hm : X.mg x = some (.ref W)) (c : WeC X.K W) (ha : PA X (e :: es) ta)
    (hc : eval (.Call (.Attribute (.Name x p1) "__init__" p2) (e :: es) [] pos) X.env = (do
      let ov ← eval (.Name x p1) X.env
      standAt p2.atName
      let (f, first) ← holding [ov] (getMethod ov "__init__" pl)
      callWith pos f first (backTo pos (starEach (e :: es) X.env)) (backToKw pos (keywordEach [] X.env))) := by rfl)
    (hdb : (x == ("__debug__" : Str)) = false := by decide) (he : starEach (e :: es) X.env = (false, eval e X.env) :: starEach es X.env := by rfl) (hpl : (backTo pos (starEach es X.env)).any (·.1) = false := by rfl) :
    PE X (.Call (.Attribute (.Name x p1) "__init__" p2) (e :: es) [] pos) (tVeI X.K ta) := by
  refine ⟨fun pins s σ H Q I h => ?_⟩
  refine PySem.W.methodCall_KW (ld_glob I hg hm ?_ hdb) hc
  obtain ⟨m, fr⟩ := I.fr
  refine PySem.W.method_of_cls fr I.ok.mod.kin c.sp (PySem.W.cls_val fr I.ok.mod.kin c.typ c.rd c.ini (by decide +kernel) ?_)
  show wpAny _ _ (callWith pos (Value.builtin "ValueError.__init__") [] (backTo pos (starEach (e :: es) X.env)) []) _ _ _
  refine PyProof.Rows.callWith_method1 (thn (ha.run pos pins _ σ H _ (I.tok _) h) fun us s1 ⟨vs, G, J1, rel, x0, C0, ws, ev, few, T, here, q⟩ => ?_) he hpl
  subst ev
  cases rel with
  | @cons _ u0 _ ur r0 rs =>
    obtain rfl : u0 = Value.ref x0 := r0
    refine oinit_ok T J1 here ?_ fun s' J => ⟨.non, G, J, rfl, q⟩
    have := Paired.length rs
    rw [sizeLine_eq]
    omega
/-- e[i], e a tuple that comes back -/
theorem we_ix {k : Nat} {j : Nat} {Q : VK} (ha : WE X a σ H fun v H1 => ∃ (c : Addr) (xs : List V) (u : V), v = .ref c ∧ Rd H1 c (.tup xs) ∧ atI xs (k : Int) = some u ∧ Q u H1) (hs : PlainIx (.Constant (.int (k : Int)) j p1) := by exact fun _ _ => rfl) :
    WE X (.Subscript a (.Constant (.int (k : Int)) j p1) pos) σ H Q :=
  .of (pe_ix ix_tup pe_we pe_we hs) (ha.mono fun x H1 ⟨c, xs, u, e, h1, h2, q⟩ => .of pe_int ⟨c, xs, (k : Int), u, e, rfl, .inl h1, h2, q⟩)
end
/-! ### NotSure -/
structure DfN (K : PySem.W.Frag) (C : Addr) (q : Str) (st : Stmt) : Prop where
  ex : ∃ (f : Addr) (fd : FuncData), FunD K "__init__" q (defArgs st) (defBody st) (defScope st) [] [] f fd ∧ PySem.W.findIn K (.ref C) "__init__" = some (some (.ref f)) ∧ PySem.W.typeIn K (.ref f) = some (.type "function")
structure HasX (P : Program) (w : World) (K : PySem.W.Frag) (mg : Str → Option Value) (base : Heap) (C : Addr) (k : Nat) (ps : List Str) (sp : Sp) : Prop where
  ex : ∃ (f : Addr) (fd : FuncData), FnOk P w K mg base CX0 k f fd ps sp ∧ PySem.W.findIn K (.ref C) "__init__" = some (some (.ref f)) ∧ PySem.W.typeIn K (.ref f) = some (.type "function") ∧ Binds K fd ps []
/-- what of NotSure is needed -/
structure NsC (K : PySem.W.Frag) (mg : Str → Option Value) (C : Addr) : Prop where
  gC : mg "NotSure" = some (.ref C)
  o : OexC K C
  no : PySem.W.findIn K (.ref C) "places" = some none
  xf : XfC K C
section
variable {P : Program} {w : World} {K : PySem.W.Frag} {mg : Str → Option Value} {base : Heap} {C : Addr}
def spNs (K : PySem.W.Frag) : Sp := fun vs H Q _ => ∃ (a C : Addr) (y : V), vs = [.ref a, y] ∧ OexC K C ∧ PySem.W.findIn K (.ref C) "places" = some none ∧ H a = some (exo a C none) ∧
  ∀ dx H1, Ex H H1 → H1 dx = none → dx ≠ a → Q .non (upd (upd H1 dx (exd dx [(("places" : Str), y)])) a (exo a C (some dx)))
theorem scNs : FnScope ["self", "places"] ["self", "places"] (defScope sNotsureInit) := ⟨rfl, rfl, rfl, by decide +kernel, rfl, by decide +kernel, by decide +kernel⟩
theorem hNs {W : Addr} (D : DfN K C "NotSure.__init__" sNotsureInit) (gW : mg "WarpError" = some (.ref W)) (cW : WeC K W) : HasX P w K mg base C 1 ["self", "places"] (spNs K) := by
  obtain ⟨f, fd, F, i1, i2⟩ := D.ex
  refine ⟨f, fd, F.ok scNs (fun vs H Q E ⟨_, _, _, h, _⟩ => by rw [h]; rfl) fun cdv A outer s H vs Q E hr h => ⟨_, PSs.nox pss_wss, ?_⟩, i1, i2, F.bindsN fun _ _ _ _ _ _ us hl => match us, hl with | [_, _], _ => rfl⟩
  obtain ⟨a, C, y, rfl, o, no, ha, q⟩ := h
  show WSs (cx0 P w K mg base ["self", "places"] "NotSure.__init__" sNotsureInit f cdv A outer s H E) (defBody sNotsureInit) { nx := fun _ H' => Q .non H', rt := Q } (start ["self", "places"] [.ref a, y]) H
  -- WarpError.__init__(self, ..)
  refine wss_cons (ws_expr (.of (pe_weinit rfl gW cW pa_wa) (ma_cons (me_var 0) (ma_cons me_str ma_nil) rfl H (exr H) _ fun vs H2 x2 ps => ?_)))
  obtain ⟨u, z, rfl, h1, h2⟩ := p2 ps
  have e1 : u = .ref a := h1
  subst e1
  refine ⟨a, C, [z], rfl, by simp, o, x2 _ _ ha, ?_⟩
  -- self.places = places
  refine wss_one (.of (ps_ost pe_we pe_we) (ME.we (me_var 1) fun u H3 x3 e3 => ME.we (me_var 0) fun z H4 x4 e4 => ?_))
  have e3' : u = y := e3
  have e4' : z = .ref a := e4
  subst e3' e4'
  exact ⟨a, C, rfl, o, no, .inl ⟨(x2.trans (x3.trans x4)) _ _ ha, fun dx n ne => q dx H4 (x2.trans (x3.trans x4)) n ne⟩⟩
/-- NotSure(e) is raised -/
theorem ws_notSure {X : Cx} {e : Expr} {σ : L2.St} {H : Hp} {p pos pos2 : Pos} {D : Ends} {W : WX} {P1 : Pv} {k : Nat} (F : HasX X.prog X.w X.K X.mg X.base C k ["self", "places"] (spNs X.K)) (N : NsC X.K X.mg C) (hr : Room (k + 1) X.A) (tk : Takes X W) (he : ME X e σ H P1) [m : Mo P1]
    (q : ∀ y dx H2, Ex H H2 → P1 y H2 → H2 dx = some (.xd [(("places" : Str), y)]) → W (.ref C) (some dx) σ H2) (hc : X.calm = true := by rfl) (hg : Gl X "NotSure" := by rfl) (hs : starEach [e] X.env = (false, eval e X.env) :: starEach [] X.env := by rfl) (hpl : (backTo pos (starEach [] X.env)).any (·.1) = false := by rfl) :
    WS X (.Raise (some (.Call (.Name "NotSure" p) [e] [] pos)) none pos2) D σ H := by
  obtain ⟨f, fd, h1, h2, h3, h4⟩ := F.ex
  refine ws_raise tk (pmk_oex N.o h2 h3 h1 hr h4 .nil pass0 hg N.gC pa_wa (by decide) hs hpl) (wa_one (he.we fun y H1 x1 py => ⟨by simp, fun a na => ⟨a, C, y, rfl, N.o, N.no, upd_same, fun dx H2 x2 n ne => ⟨rfl, dx, [(("places" : Str), y)], upd_same, ?_, ?_, ?_⟩⟩⟩) hs) hc
  · rw [upd_ne ne, upd_same]
  · have := Evl.fresh_back x2 n
    rw [upd_ne ne] at this
    exact this
  · have nd : H1 dx = none := by
      have := Evl.fresh_back x2 n
      rw [upd_ne ne] at this
      exact this
    have x : Ex H1 (upd (del (upd (upd H2 dx (exd dx [(("places" : Str), y)])) a (exo a C (some dx))) a) dx (.xd [(("places" : Str), y)])) := fun b o hb => by
      have b1 : b ≠ a := fun z => by
        rw [z, na] at hb
        cases hb
      have b2 : b ≠ dx := fun z => by
        rw [z, nd] at hb
        cases hb
      rw [upd_ne b2, del_ne b1, upd_ne b1, upd_ne b2]
      exact x2 _ _ (by rw [upd_ne b1]; exact hb)
    exact q y dx _ (x1.trans x) (m.mo x py) upd_same

/-! ### renamed -/
def renamedL (d : List Int × Int × Int) : List Int := d.1.map fun o => if o = d.2.1 then d.2.2 else o
abbrev spRenamed : Sp := SpD (δ := List Int × Int × Int) (fun d => [Tu RI d.1, Is (.int d.2.1), Is (.int d.2.2)]) (fun d => d.1.length ≤ 1000) fun d => Tu RI (renamedL d)
abbrev nRenamed : List Str := ["some", "thread", "new", "one"]
theorem scRenamed : FnScope nRenamed ["some", "thread", "new"] (defScope sRenamed) := ⟨rfl, rfl, rfl, by decide +kernel, rfl, by decide +kernel, by decide +kernel⟩
theorem hRenamed (B : Bl mg) (D : Df K mg "renamed" sRenamed) : Has P w K mg base CX0 "renamed" 1 ["some", "thread", "new"] spRenamed :=
  .mkD D scRenamed (fun _ _ _ _ _ _ us hl => match us, hl with | [_, _, _], _ => rfl) (fun _ => rfl) fun f cdv A outer s H vs Q E d hr ho ha q => by
    obtain ⟨v, u, z, rfl, h1, h2, h3⟩ := p3 ha
    have h2' : u = .int d.2.1 := h2
    have h3' : z = .int d.2.2 := h3
    subst h2' h3'
    refine wss_one (ws_ret (ME.we (me_tuL B (mn_n0 (R := RI) (S := RI) 3 (mi_tup (me_var 0) h1) (fun o => if o = d.2.1 then d.2.2 else o) (small1000 ho) (fun o y H3 hn x3 r => ?_) scRenamed.nd (blkOk_by (N := nRenamed) (sc := defScope sRenamed) (by decide +kernel))).me).me fun u H4 x4 p => q u H4 x4 p))
    have r' : y = .int o := r
    subst r'
    intro _ _ _ _ _
    refine me_if (mt_eqS (me_var 3) (me_var 1)) (fun e => ?_) (fun e => ?_)
    · rw [if_pos (V.int.inj (of_decide_eq_true e))]
      exact me_var 2
    · rw [if_neg fun z => of_decide_eq_false e (by rw [z])]
      exact me_var 3
end
end Wk
set_option Elab.async false
set_option linter.all false
set_option maxRecDepth 100000
set_option maxHeartbeats 4000000
/-! tied. -/
namespace Wk
open PySem PySem.Spec PyProof.Rows L2
section
variable {P : Program} {w : World} {K : PySem.W.Frag} {mg : Str → Option Value} {base : Heap}
/-- tied with the thread itself -/
def spTied (CF CN : Addr) : Sp := fun vs H Q E => ∃ (d : DP) (v1 v2 v3 v4 v5 v6 : V), vs = [v1, v2, v3, v4, v5, v6] ∧ GoodP d ∧ Tu RI d.order v1 H ∧ v2 = .int d.t ∧ v3 = .int d.t ∧ RK d.k v4 H ∧ Tu (Tu RI) d.rows v5 H ∧ Tu RE d.es v6 H ∧
  (∀ p, placesN d.order d.t d.k d.rows d.es = [p] → ∀ a H', Ex H H' → TuP [Tu RI (putAt' d.order d.t p), Any, Any, Any] (.ref a) H' → Q (.ref a) H') ∧
  (placesN d.order d.t d.k d.rows d.es = [] → ∀ H', Ex H H' → E (.ref CF) none H') ∧
  (2 ≤ (placesN d.order d.t d.k d.rows d.es).length → ∀ y dx H', Ex H H' → Tu RI d.res y H' → H' dx = some (.xd [(("places" : Str), y)]) → E (.ref CN) (some dx) H')
abbrev nTied : List Str := ["order", "thread", "new", "kept", "reeded", "threaded", "found", "crosses", "over", "under", "bundles", "bundle", "keeping", "dents", "some", "eyes", "one", "shaft", "eye"]
theorem scTied : FnScope nTied ["order", "thread", "new", "kept", "reeded", "threaded"] (defScope sTied) := ⟨rfl, rfl, rfl, by decide +kernel, rfl, by decide +kernel, by decide +kernel⟩
theorem resLen (d : DP) : d.res.length = (placesN d.order d.t d.k d.rows d.es).length := by
  unfold DP.res placesIn
  rw [List.length_map]
theorem hTied {CF CN : Addr} (B : Bl mg) (T : ExF K mg "NoneFits" CF) (N : NsC K mg CN) (D : Df K mg "tied" sTied) (G1 : Has P w K mg base CX0 "need_others" 5 ["order", "thread"] spNeedOthers) (G2 : Has P w K mg base CX0 "need_thread" 3 ["thing"] spNeedThread)
    (G3 : Has P w K mg base CX0 "need_told" 8 ["kept", "reeded", "threaded"] spNeedTold) (G4 : Has P w K mg base CX0 "places_in" 9 ["order", "thread", "kept", "reeded", "threaded"] spPlacesIn) (G5 : Has P w K mg base CX0 "renamed" 1 ["some", "thread", "new"] spRenamed)
    (G6 : HasX P w K mg base CN 1 ["self", "places"] (spNs K)) : Has P w K mg base (L2.CX P w) "tied" 10 ["order", "thread", "new", "kept", "reeded", "threaded"] (spTied CF CN) :=
  .mkE D scTied (fun _ _ _ _ _ _ us hl => match us, hl with | [_, _, _, _, _, _], _ => rfl) (fun vs H Q E ⟨_, _, _, _, _, _, _, h, _⟩ => by rw [h]; rfl) fun f cdv A outer s H vs Q E hr h tk => by
    obtain ⟨d, vo, vt, vn, vk, vr, ve, rfl, ho, h1, h2, h3, h4, h5, h6, q1, q2, q3⟩ := h
    subst h2 h3
    -- need_others(order, thread), need_thread(new)
    refine wss_cons (ws_expr (ME.we (me_callD (d.order, d.t) G1 (hr.mono (by decide)) ⟨ho.ord, ho.room, ho.t0, ho.no⟩ (ma_cons (me_is (me_var 0) h1) (ma_cons (me_var 1) ma_nil)) (P' := Any) (hP := fun _ _ _ => trivial)) fun _ H1 x1 _ => ?_))
    refine wss_cons (ws_expr (ME.we (me_callD d.t G2 (hr.mono (by decide)) ho.t0 (ma_cons (me_var 2) ma_nil) (P' := Any) (hP := fun _ _ _ => trivial)) fun _ H2 x2 _ => ?_))
    -- if new in order
    refine wss_cons (ws_if (MT.wt (k := false) (MT.is (mt_inT (me_var 2) (me_is (me_var 0) (MoR.mo (R := Tu RI) (x1.trans x2) h1))) (decide_eq_false ho.no)) fun H3 x3 => iteF (wss_nil ?_)))
    have x03 := (x1.trans x2).trans x3
    -- need_told(..)
    refine wss_cons (ws_expr (ME.we (me_callD (⟨d.k, d.rows, d.es⟩ : DT) G3 (hr.mono (by decide)) ⟨ho.kept, ho.rows, ho.es⟩ (ma_cons (me_is (me_var 3) (Im.im (R := RK) (tkEx x03) h4)) (ma_cons (me_is (me_var 4) (MoR.mo (R := Tu (Tu RI)) x03 h5)) (ma_cons (me_is (me_var 5) (MoR.mo (R := Tu RE) x03 h6)) ma_nil))) (P' := Any) (hP := fun _ _ _ => trivial)) fun _ H4 x4 _ => ?_))
    -- if new != thread and ..
    refine wss_cons (ws_if (MT.wt (k := false) (MT.is (MW.mt (mw_and (k := false) (j := false) (MT.is (mt_neS (me_var 2) (me_var 1)) (by simp)) fun e => nomatch e)) rfl) fun H5 x5 => iteF (wss_nil ?_)))
    have x05 := x03.trans (x4.trans x5)
    have h15 := MoR.mo (R := Tu RI) x05 h1
    have h45 := Im.im (R := RK) (tkEx x05) h4
    have h55 := MoR.mo (R := Tu (Tu RI)) x05 h5
    have h65 := MoR.mo (R := Tu RE) x05 h6
    -- found = places_in(..)
    refine wss_cons (ws_set 6 scTied.nd (MN.we (mn_callD d G4 hr ho (ma_cons (me_is (me_var 0) h15) (ma_cons (me_var 1) (ma_cons (me_is (me_var 3) h45) (ma_cons (me_is (me_var 4) h55) (ma_cons (me_is (me_var 5) h65) ma_nil))))) (P' := Li RI d.res)) fun l H6 nl x6 hl => ?_))
    have x06 := x05.trans x6
    -- if found == []
    refine wss_cons (ws_if (MT.wt (mt_eqD (d' := []) encL hr.units (me_is (me_var 6) hl) ((mn_lst ma_nil moNil (Nat.zero_le _)).me.imp fun v H x h => LiP.li (ds := ([] : List Int)) h)) fun H7 x7 => ?_))
    by_cases he : d.res = []
    · rw [decide_eq_true he]
      have he' : placesN d.order d.t d.k d.rows d.es = [] := List.map_eq_nil_iff.mp he
      exact iteT (wss_one (ws_raise tk (pmkF T) (q2 he' H7 (x06.trans x7))))
    · rw [decide_eq_false he]
      refine iteF (wss_nil ?_)
      have hl7 := MoR.mo (R := Li RI) x7 hl
      -- if len(found) > 1
      refine wss_cons (ws_if (MT.wt (mt_cI op_gt (me_lenL B (me_is (me_var 6) hl7)) me_int) fun H8 x8 => ?_))
      have hl8 := MoR.mo (R := Li RI) x8 hl7
      have x08 := x06.trans (x7.trans x8)
      by_cases h2 : 2 ≤ d.res.length
      · rw [decide_eq_true (by omega)]
        exact iteT (wss_one (ws_notSure G6 N (hr.mono (by decide)) tk (me_tuL B (me_is (me_var 6) hl8)).me fun y dx H9 x9 py hd => q3 (by rw [← resLen]; exact h2) y dx H9 (x08.trans x9) py hd))
      · rw [decide_eq_false (by omega)]
        refine iteF (wss_nil ?_)
        obtain ⟨p, hp⟩ : ∃ p, placesN d.order d.t d.k d.rows d.es = [p] := by
          have e1 := resLen d
          match hm : placesN d.order d.t d.k d.rows d.es with
          | [] => exact absurd (by unfold DP.res placesIn; rw [hm]; rfl) he
          | [p] => exact ⟨p, rfl⟩
          | p :: r :: t =>
            rw [hm] at e1
            rw [e1] at h2
            exact absurd (by simp) h2
        have hres : d.res = [(p : Int)] := by
          unfold DP.res placesIn
          rw [hp]
          rfl
        rw [hres] at hl8
        obtain ⟨tk', x, y, z, rfl, ht, hx, hy, hz⟩ := Im.im (R := RK) (tkEx x08) h4
        have k := ho.kept
        have few := k.few
        have bl := k.bund.len
        have cl : ∀ c ∈ d.k.crosses, ∃ a b, c = [a, b] ∧ a.length ≤ 60 ∧ b.length ≤ 60 := fun c hc => by
          obtain ⟨h, e⟩ := k.cross c hc
          obtain ⟨a, b, rfl⟩ := len2 e
          exact ⟨a, b, rfl, (h.all a (by simp)).len, (h.all b (by simp)).len⟩
        -- crosses = [..]
        refine wss_cons (ws_p0 (R := Tu (Tu RI)) (S := RU) (l := 7) 8 9 (fun d u w H => ∃ a b, d = [a, b] ∧ Tu RI a u H ∧ Tu RI b w H) (mi_tup (me_ixTV (me_var 3) me_int ht rfl) hy) (fun c hc => by
          obtain ⟨a, b, rfl, _⟩ := cl c hc
          exact prTu a b) (fun _ => ()) (small1000 (by omega)) (by decide) (fun c u w H9 hc x9 hY => ?_) (fun cr H9 ncr x9 hcr => ?_) scTied.nd (blkOk_by (N := nTied) (sc := defScope sTied) (by decide +kernel)))
        · obtain ⟨a, b, rfl, ra, rb⟩ := hY
          obtain ⟨a', b', e, la, lb⟩ := cl _ hc
          cases e
          intro _ _ _ _ _
          exact (mn_tup (Ps := [Any, Any]) (ma_cons (me_callD (a, d.t, d.t) G5 (hr.mono (by decide)) (show a.length ≤ 1000 by omega) (ma_cons (me_is (me_var 8) ra) (ma_cons (me_var 1) (ma_cons (me_var 2) ma_nil)))).any (ma_cons (me_callD (b, d.t, d.t) G5 (hr.mono (by decide)) (show b.length ≤ 1000 by omega) (ma_cons (me_is (me_var 9) rb) (ma_cons (me_var 1) (ma_cons (me_var 2) ma_nil)))).any ma_nil)) (moCons (moCons moNil)) (by simp)).me.unit
        -- bundles = [..]
        refine wss_cons (ws_n0 (R := Tu RI) (S := RU) (j := 10) 11 (mi_tup (me_ixTV (me_var 3) me_int (rdMo x9 ht) rfl) (MoR.mo (R := Tu (Tu RI)) x9 hz)) (fun _ => ()) (small1000 (by omega)) (fun o r H10 ho' x10 r10 => ?_) (fun bu H10 nbu x10 hbu => ?_) scTied.nd (blkOk_by (N := nTied) (sc := defScope sTied) (by decide +kernel)))
        · intro _ _ _ _ _
          have := bundLen k ho'
          exact (me_callD (o, d.t, d.t) G5 (hr.mono (by decide)) (show o.length ≤ 1000 by omega) (ma_cons (me_is (me_var 11) r10) (ma_cons (me_var 1) (ma_cons (me_var 2) ma_nil)))).unit
        have x910 := x9.trans x10
        have lt := k.thr.len
        -- keeping = (..)
        refine wss_cons (ws_set 12 scTied.nd (ME.we (mn_tup (Ps := [Any, Any, Any]) (ma_cons (me_tuL B (me_sortedT B (me_callD (d.k.threads, d.t, d.t) G5 (hr.mono (by decide)) (show d.k.threads.length ≤ 1000 by omega) (ma_cons (me_is (me_ixTV (me_var 3) me_int (rdMo x910 ht) rfl) (MoR.mo (R := Tu RI) x910 hx)) (ma_cons (me_var 1) (ma_cons (me_var 2) ma_nil))) (P' := Tu RI (renamedL (d.k.threads, d.t, d.t))))).me).me.any
          (ma_cons (me_tuL B (me_is (me_var 7) (MoR.mo (R := Li RU) x10 hcr))).me.any (ma_cons (me_tuL B (me_is (me_var 10) hbu)).me.any ma_nil))) (moCons (moCons (moCons moNil))) (by simp)).me.any fun kp H11 x11 _ => ?_))
        have x0b := x08.trans (x910.trans x11)
        have rl : ∀ r ∈ d.rows, r.length ≤ 60 := fun r hr' => by
          rcases ho.rows with e | e
          · rw [e] at hr'
            cases hr'
          · exact (e.all r hr').len
        have rl2 : d.rows.length ≤ 120 := by
          rcases ho.rows with e | e
          · rw [e]
            exact Nat.zero_le _
          · have := e.most
            omega
        -- dents = tuple([..])
        refine wss_cons (ws_set 13 scTied.nd (ME.we (me_tuL B (mn_n0 (R := Tu RI) (S := RU) 14 (mi_tup (me_var 4) (MoR.mo (R := Tu (Tu RI)) x0b h5)) (fun _ => ()) (small1000 (by omega)) (fun o r H12 ho' x12 r12 => ?_) scTied.nd (blkOk_by (N := nTied) (sc := defScope sTied) (by decide +kernel))).me).me.any fun dn H12 x12 _ => ?_))
        · intro _ _ _ _ _
          have := rl o ho'
          exact (me_callD (o, d.t, d.t) G5 (hr.mono (by decide)) (show o.length ≤ 1000 by omega) (ma_cons (me_is (me_var 14) r12) (ma_cons (me_var 1) (ma_cons (me_var 2) ma_nil)))).unit
        have x0c := x0b.trans x12
        have el := ho.es.ord.len
        rw [List.length_map] at el
        -- eyes = tuple([..])
        refine wss_cons (ws_set 15 scTied.nd (ME.we (me_tuL B (mn_t0 (R := RE) (S := RU) 16 17 18 (fun d u w z H => u = .int d.1 ∧ w = .int d.2.1 ∧ z = .int d.2.2) (mi_tup (me_var 5) (MoR.mo (R := Tu RE) x0c h6)) (fun d _ => trRE d) (fun _ => ()) (small1000 (by omega)) (by decide) (by decide) (by decide) (fun o u w z H13 ho' x13 hY => ?_) scTied.nd (blkOk_by (N := nTied) (sc := defScope sTied) (by decide +kernel))).me).me.any fun ey H13 x13 _ => ?_))
        · obtain ⟨rfl, rfl, rfl⟩ := hY
          intro _ _ _ _ _
          exact (mn_tup (Ps := [Any, Any, Any]) (ma_cons (me_if (mt_eqS (me_var 16) (me_var 1)) (fun _ => (me_var 2).any) (fun _ => (me_var 16).any)) (ma_cons (me_var 17).any (ma_cons (me_var 18).any ma_nil))) (moCons (moCons (moCons moNil))) (by simp)).me.unit
        -- return (..)
        have x8d := x910.trans (x11.trans (x12.trans x13))
        have h1d := MoR.mo (R := Tu RI) (x0c.trans x13) h1
        have hld := MoR.mo (R := Li RI) x8d hl8
        have lo := ho.ord.len
        have la : (d.order.take p).length ≤ 60 := Nat.le_trans (List.length_take_le' _ _) lo
        have lb : (d.order.drop p).length ≤ 60 := by
          rw [List.length_drop]
          omega
        have ix0 : atI [(p : Int)] ((0 : Nat) : Int) = some (p : Int) := by
          rw [atNat]
          rfl
        refine wss_one (ws_ret (MN.we (mn_tup (Ps := [Tu RI (putAt' d.order d.t p), Any, Any, Any]) (ma_cons (me_cat (me_cat (me_take (k := p) (me_is (me_var 0) h1d) (me_ixL (R := RI) (me_is (me_var 6) hld) me_int ix0)) ((mn_tup (ma_cons (me_is (me_var 2) (show RI d.t (.int d.t) H13 from rfl)) ma_nil) (moCons moNil) (by simp)).me.imp fun v H x h => TuP.tu (ds := [d.t]) h) (by simp; omega))
          (me_drop (k := p) (me_is (me_var 0) h1d) (me_ixL (R := RI) (me_is (me_var 6) hld) me_int ix0)) (by simp; omega)) (ma_cons (me_var 12).any (ma_cons (me_var 13).any (ma_cons (me_var 15).any ma_nil)))) (moCons (moCons (moCons (moCons moNil)))) (by simp)) fun a H14 na x14 r => q1 p hp a H14 ((x0c.trans x13).trans x14) r))
end
end Wk
set_option Elab.async false
set_option linter.all false
set_option maxRecDepth 100000
set_option maxHeartbeats 400000
/-! The plain law: what the bits say. -/
namespace Wk
open PySem PySem.Spec PyProof.Rows L2
/-- y stands before x -/
def Bef {α : Type} (l : List α) (y x : α) : Prop := ∃ a b, l = a ++ x :: b ∧ y ∈ a
abbrev tb (n y : Nat) : Prop := n.testBit y = true
theorem tbOr {a b y : Nat} : tb (a ||| b) y ↔ tb a y ∨ tb b y := by
  show (a ||| b).testBit y = true ↔ _
  rw [Nat.testBit_or, Bool.or_eq_true]
theorem tbPow {s y : Nat} : tb (2 ^ s) y ↔ y = s := by
  show (2 ^ s).testBit y = true ↔ _
  rw [Nat.testBit_two_pow]
  exact ⟨fun h => (of_decide_eq_true h).symm, fun h => decide_eq_true h.symm⟩
theorem tbZero {y : Nat} : ¬ tb 0 y := by
  show ¬ (0 : Nat).testBit y = true
  rw [Nat.zero_testBit]
  decide
theorem bitsFold (ss : List Nat) : ∀ {a y : Nat}, tb (ss.foldl (fun a s => a ||| 2 ^ s) a) y ↔ tb a y ∨ y ∈ ss := by
  induction ss with
  | nil =>
    intro a y
    simp
  | cons s ss ih =>
    intro a y
    rw [List.foldl_cons, ih, tbOr, tbPow, List.mem_cons, or_assoc]
theorem tbBits {ss : List Nat} {y : Nat} : tb (bitsOf ss) y ↔ y ∈ ss := by
  unfold bitsOf
  rw [bitsFold]
  exact ⟨fun h => h.elim (fun z => absurd z tbZero) id, .inr⟩
theorem getSet {l : List Nat} {s x v : Nat} (h : x < l.length) : (l.set s v).getD x 0 = if s = x then v else l.getD x 0 := by
  rw [List.getD_eq_getElem?_getD, List.getD_eq_getElem?_getD, List.getElem?_set]
  by_cases e : s = x
  · subst e
    rw [if_pos rfl, if_pos rfl, if_pos h]
    rfl
  · rw [if_neg e, if_neg e]
theorem befCons {α : Type} {s x : α} {r : List α} {Q : List α → Prop} : (∃ a b, s :: r = a ++ x :: b ∧ Q a) ↔ (s = x ∧ Q []) ∨ ∃ a b, r = a ++ x :: b ∧ Q (s :: a) := by
  constructor
  · rintro ⟨a, b, e, q⟩
    cases a with
    | nil =>
      rw [List.nil_append] at e
      exact .inl ⟨(List.cons.inj e).1, q⟩
    | cons c a =>
      rw [List.cons_append] at e
      obtain ⟨e1, e2⟩ := List.cons.inj e
      subst e1
      exact .inr ⟨a, b, e2, q⟩
  · rintro (⟨e, q⟩ | ⟨a, b, e, q⟩)
    · subst e
      exact ⟨[], r, rfl, q⟩
    · exact ⟨s :: a, b, by rw [e]; rfl, q⟩
theorem layATb (spots : List Nat) : ∀ {ah : List Nat} {p x y : Nat}, x < ah.length → (tb ((spots.foldl stepA (ah, p)).1.getD x 0) y ↔ tb (ah.getD x 0) y ∨ ∃ a b, spots = a ++ x :: b ∧ (tb p y ∨ y ∈ a)) := by
  induction spots with
  | nil =>
    intro ah p x y h
    simp
  | cons s r ih =>
    intro ah p x y h
    rw [List.foldl_cons]
    show tb ((r.foldl stepA (ah.set s (ah.getD s 0 ||| p), p ||| 2 ^ s)).1.getD x 0) y ↔ _
    rw [ih (by rw [List.length_set]; exact h), getSet h, befCons (Q := fun a => tb p y ∨ y ∈ a)]
    by_cases e : s = x
    · subst e
      rw [if_pos rfl, tbOr, or_assoc]
      simp only [true_and, List.not_mem_nil, or_false, tbOr, tbPow, List.mem_cons, or_assoc]
    · rw [if_neg e]
      simp only [e, false_and, false_or, tbOr, tbPow, List.mem_cons, or_assoc]
theorem layABef {spots ah : List Nat} {x y : Nat} (h : x < ah.length) : tb ((layA ah spots).1.getD x 0) y ↔ tb (ah.getD x 0) y ∨ Bef spots y x := by
  unfold layA
  rw [layATb spots h]
  simp only [tbZero, false_or]
  rfl
theorem layBTb (all : Nat) (spots : List Nat) : ∀ {be : List Nat} {x y : Nat}, x < be.length → (tb ((spots.foldl (stepB all) be).getD x 0) y ↔ tb (be.getD x 0) y ∨ x ∈ spots ∧ tb all y) := by
  induction spots with
  | nil =>
    intro be x y h
    simp
  | cons s r ih =>
    intro be x y h
    rw [List.foldl_cons]
    show tb ((r.foldl (stepB all) (be.set s (be.getD s 0 ||| all))).getD x 0) y ↔ _
    rw [ih (by rw [List.length_set]; exact h), getSet h, List.mem_cons]
    by_cases e : s = x
    · subst e
      rw [if_pos rfl, tbOr]
      constructor
      · rintro ((h | h) | ⟨_, h⟩)
        · exact .inl h
        · exact .inr ⟨.inl rfl, h⟩
        · exact .inr ⟨.inl rfl, h⟩
      · rintro (h | ⟨_, h⟩)
        · exact .inl (.inl h)
        · exact .inl (.inr h)
    · rw [if_neg e]
      constructor
      · rintro (h | ⟨h1, h⟩)
        · exact .inl h
        · exact .inr ⟨.inr h1, h⟩
      · rintro (h | ⟨h1 | h1, h⟩)
        · exact .inl h
        · exact absurd h1.symm e
        · exact .inr ⟨h1, h⟩
theorem layBBoth {spots be : List Nat} {x y : Nat} (h : x < be.length) : tb ((layB be spots).getD x 0) y ↔ tb (be.getD x 0) y ∨ x ∈ spots ∧ y ∈ spots := by
  unfold layB
  rw [layBTb _ spots h, tbBits]
theorem orTb (p : Nat) (spots : List Nat) : ∀ {ah : List Nat} {x y : Nat}, x < ah.length → (tb ((spots.foldl (orAt p) ah).getD x 0) y ↔ tb (ah.getD x 0) y ∨ x ∈ spots ∧ tb p y) := fun h => layBTb p spots h
theorem rowsTb (rows : List (List Nat)) : ∀ {ah : List Nat} {p x y : Nat}, x < ah.length → (tb ((rows.foldl rowStep (ah, p)).1.getD x 0) y ↔ tb (ah.getD x 0) y ∨ ∃ r a b, rows = a ++ r :: b ∧ (x ∈ r ∧ (tb p y ∨ ∃ r' ∈ a, y ∈ r'))) := by
  induction rows with
  | nil =>
    intro ah p x y h
    simp
  | cons s rs ih =>
    intro ah p x y h
    rw [List.foldl_cons]
    show tb ((rs.foldl rowStep (s.foldl (orAt p) ah, p ||| bitsOf s)).1.getD x 0) y ↔ _
    rw [ih (by rw [orLen]; exact h), orTb p s h, or_assoc]
    refine or_congr Iff.rfl ?_
    constructor
    · rintro (⟨h1, h2⟩ | ⟨r, a, b, e, h1, h2⟩)
      · exact ⟨s, [], rs, rfl, h1, .inl h2⟩
      · refine ⟨r, s :: a, b, by rw [e]; rfl, h1, ?_⟩
        rcases h2 with h2 | ⟨r', h3, h4⟩
        · rcases tbOr.mp h2 with h2 | h2
          · exact .inl h2
          · exact .inr ⟨s, List.mem_cons_self, tbBits.mp h2⟩
        · exact .inr ⟨r', List.mem_cons_of_mem _ h3, h4⟩
    · rintro ⟨r, a, b, e, h1, h2⟩
      cases a with
      | nil =>
        rw [List.nil_append] at e
        obtain ⟨e1, e2⟩ := List.cons.inj e
        subst e1
        rcases h2 with h2 | ⟨r', h3, _⟩
        · exact .inl ⟨h1, h2⟩
        · cases h3
      | cons c a =>
        rw [List.cons_append] at e
        obtain ⟨e1, e2⟩ := List.cons.inj e
        subst e1
        refine .inr ⟨r, a, b, e2, h1, ?_⟩
        rcases h2 with h2 | ⟨r', h3, h4⟩
        · exact .inl (tbOr.mpr (.inl h2))
        · rcases List.mem_cons.mp h3 with h3 | h3
          · rw [h3] at h4
            exact .inl (tbOr.mpr (.inr (tbBits.mpr h4)))
          · exact .inr ⟨r', h3, h4⟩
theorem rowsBef {rows : List (List Nat)} {ah : List Nat} {x y : Nat} (h : x < ah.length) : tb ((layRows ah rows).1.getD x 0) y ↔ tb (ah.getD x 0) y ∨ ∃ r r', Bef rows r' r ∧ x ∈ r ∧ y ∈ r' := by
  unfold layRows
  rw [rowsTb rows h]
  refine or_congr Iff.rfl ⟨?_, ?_⟩
  · rintro ⟨r, a, b, e, h1, h2 | ⟨r', h3, h4⟩⟩
    · exact absurd h2 tbZero
    · exact ⟨r, r', ⟨a, b, e, h3⟩, h1, h4⟩
  · rintro ⟨r, r', ⟨a, b, e, h3⟩, h1, h4⟩
    exact ⟨r, a, b, e, h1, .inr ⟨r', h3, h4⟩⟩
/-! ### the crosses -/
theorem layCTb (th : List Int) (cross : List (List Int)) : ∀ {st : List Nat × List Nat} {x y : Nat}, x < st.1.length → x < st.2.length →
    (tb ((cross.foldl (layC th) st).1.getD x 0) y ↔ tb (st.1.getD x 0) y ∨ ∃ s ∈ cross, Bef (idxs th s) y x) ∧ (tb ((cross.foldl (layC th) st).2.getD x 0) y ↔ tb (st.2.getD x 0) y ∨ ∃ s ∈ cross, x ∈ idxs th s ∧ y ∈ idxs th s) := by
  induction cross with
  | nil =>
    intro st x y h1 h2
    simp
  | cons s r ih =>
    intro st x y h1 h2
    rw [List.foldl_cons]
    obtain ⟨i1, i2⟩ := ih (st := layC th st s) (x := x) (y := y) (by show x < (layA st.1 (idxs th s)).1.length; unfold layA; rw [foldALen]; exact h1) (by show x < (layB st.2 (idxs th s)).length; unfold layB; rw [foldBLen]; exact h2)
    rw [i1, i2]
    show (tb ((layA st.1 (idxs th s)).1.getD x 0) y ∨ _ ↔ _) ∧ (tb ((layB st.2 (idxs th s)).getD x 0) y ∨ _ ↔ _)
    rw [layABef h1, layBBoth h2]
    simp only [List.mem_cons, exists_eq_or_imp, or_assoc, and_self]
theorem layXTb (th : List Int) (cs : List (List (List Int))) : ∀ {st : List Nat × List Nat} {x y : Nat}, x < st.1.length → x < st.2.length →
    (tb ((cs.foldl (layX th) st).1.getD x 0) y ↔ tb (st.1.getD x 0) y ∨ ∃ c ∈ cs, ∃ s ∈ c, Bef (idxs th s) y x) ∧ (tb ((cs.foldl (layX th) st).2.getD x 0) y ↔ tb (st.2.getD x 0) y ∨ ∃ c ∈ cs, ∃ s ∈ c, x ∈ idxs th s ∧ y ∈ idxs th s) := by
  induction cs with
  | nil =>
    intro st x y h1 h2
    simp
  | cons c r ih =>
    intro st x y h1 h2
    rw [List.foldl_cons]
    obtain ⟨l1, l2⟩ := layCLen th c st
    obtain ⟨i1, i2⟩ := ih (st := layX th st c) (x := x) (y := y) (by show x < (c.foldl (layC th) st).1.length; rw [l1]; exact h1) (by show x < (c.foldl (layC th) st).2.length; rw [l2]; exact h2)
    obtain ⟨j1, j2⟩ := layCTb th c (st := st) (x := x) (y := y) h1 h2
    rw [i1, i2]
    show (tb ((c.foldl (layC th) st).1.getD x 0) y ∨ _ ↔ _) ∧ (tb ((c.foldl (layC th) st).2.getD x 0) y ∨ _ ↔ _)
    rw [j1, j2]
    simp only [List.mem_cons, exists_eq_or_imp, or_assoc, and_self]
theorem zsTb {n x y : Nat} : ¬ tb ((zs n).getD x 0) y := by
  have e : (zs n).getD x 0 = 0 := by
    unfold zs
    rw [List.getD_eq_getElem?_getD, List.getElem?_replicate]
    split <;> rfl
  rw [e]
  exact tbZero
/-- what must stand ahead, what must not stand beside -/
theorem aheadTb {k : Kept} {x y : Nat} (h : x < k.threads.length) : tb ((fdOf k).ah.getD x 0) y ↔ (∃ c ∈ k.crosses, ∃ s ∈ c, Bef (idxs k.threads s) y x) ∨ ∃ r r', Bef (k.bundles.map (idxs k.threads)) r' r ∧ x ∈ r ∧ y ∈ r' := by
  have e := layXLen k.threads k.crosses (zs k.threads.length, zs k.threads.length)
  rw [zsLen] at e
  show tb ((layRows (layXs k.threads k.crosses).1 (k.bundles.map (idxs k.threads))).1.getD x 0) y ↔ _
  rw [rowsBef (by show x < (k.crosses.foldl (layX k.threads) (zs k.threads.length, zs k.threads.length)).1.length; rw [e.1]; exact h)]
  refine or_congr ?_ Iff.rfl
  show tb ((k.crosses.foldl (layX k.threads) (zs k.threads.length, zs k.threads.length)).1.getD x 0) y ↔ _
  rw [(layXTb k.threads k.crosses (by rw [zsLen]; exact h) (by rw [zsLen]; exact h)).1]
  exact ⟨fun z => z.elim (fun z => absurd z zsTb) id, .inr⟩
theorem besideTb {k : Kept} {x y : Nat} (h : x < k.threads.length) : tb ((fdOf k).be.getD x 0) y ↔ ∃ c ∈ k.crosses, ∃ s ∈ c, x ∈ idxs k.threads s ∧ y ∈ idxs k.threads s := by
  show tb ((k.crosses.foldl (layX k.threads) (zs k.threads.length, zs k.threads.length)).2.getD x 0) y ↔ _
  rw [(layXTb k.threads k.crosses (by rw [zsLen]; exact h) (by rw [zsLen]; exact h)).2]
  exact ⟨fun z => z.elim (fun z => absurd z zsTb) id, .inr⟩
end Wk
set_option Elab.async false
set_option linter.all false
set_option maxRecDepth 100000
set_option maxHeartbeats 400000
/-! The plain law: rows and legal ways. -/
namespace Wk
open PySem PySem.Spec PyProof.Rows L2
def legal (f : FD) : State → List Nat → Prop
  | _, [] => True
  | st, s :: ss => s ∈ nexts f st ∧ legal f (go st s) ss
def endSt (st : State) (ss : List Nat) : State := ss.foldl go st
theorem sumPos {l : List Nat} : 0 < l.sum ↔ ∃ a ∈ l, 0 < a := by
  induction l with
  | nil => simp
  | cons a l ih =>
    rw [List.sum_cons]
    simp only [List.mem_cons, exists_eq_or_imp, ← ih]
    omega
theorem cntPos (f : FD) : ∀ m st, 0 < cnt f m st ↔ ∃ ss : List Nat, ss.length = m ∧ legal f st ss
  | 0, st => ⟨fun _ => ⟨[], rfl, trivial⟩, fun _ => Nat.one_pos⟩
  | m + 1, st => by
    show 0 < ((nexts f st).map fun s => cnt f m (go st s)).sum ↔ _
    rw [sumPos]
    constructor
    · rintro ⟨a, ha, h0⟩
      obtain ⟨s, hs, rfl⟩ := List.mem_map.mp ha
      obtain ⟨ss, e, l⟩ := (cntPos f m (go st s)).mp h0
      exact ⟨s :: ss, by rw [List.length_cons, e], hs, l⟩
    · rintro ⟨ss, e, l⟩
      cases ss with
      | nil => cases e
      | cons s ss => exact ⟨_, List.mem_map.mpr ⟨s, l.1, rfl⟩, (cntPos f m (go st s)).mpr ⟨ss, Nat.succ.inj e, l.2⟩⟩
theorem legalApp (f : FD) : ∀ (a b : List Nat) (st : State), legal f st (a ++ b) ↔ legal f st a ∧ legal f (endSt st a) b
  | [], b, st => ⟨fun h => ⟨trivial, h⟩, fun h => h.2⟩
  | s :: a, b, st => by
    show (s ∈ nexts f st ∧ legal f (go st s) (a ++ b)) ↔ (s ∈ nexts f st ∧ legal f (go st s) a) ∧ legal f (endSt (go st s) a) b
    rw [legalApp f a b (go st s), and_assoc]
def thOf (f : FD) (ss : List Nat) : List Int := ss.map fun s => f.th.getD s 0
theorem rowsMem {f : FD} (h0 : 0 < cnt f f.th.length (0, none)) : ∀ i, i ≤ f.th.length → ∀ r : Row, r ∈ rowsAt f i ↔ ∃ ss : List Nat, ss.length = i ∧ legal f (0, none) ss ∧ r = (thOf f ss, endSt (0, none) ss) ∧ 0 < cnt f (f.th.length - i) r.2
  | 0, _, r => by
    constructor
    · intro h
      have e : r = ([], (0, none)) := List.mem_singleton.mp h
      subst e
      exact ⟨[], rfl, trivial, rfl, h0⟩
    · rintro ⟨ss, e, _, er, _⟩
      have e2 : ss = [] := List.eq_nil_of_length_eq_zero e
      subst e2
      rw [er]
      exact List.mem_singleton.mpr rfl
  | i + 1, hi, r => by
    have ih := rowsMem h0 i (by omega)
    have en : f.th.length - i = (f.th.length - (i + 1)) + 1 := by omega
    constructor
    · intro h
      obtain ⟨u, hu, hr⟩ := List.mem_flatMap.mp h
      obtain ⟨ss, e1, l1, e2, _⟩ := (ih u).mp hu
      obtain ⟨z, hz, rfl⟩ := List.mem_map.mp hr
      obtain ⟨⟨s, hs, rfl⟩, pz⟩ := liveMem hz
      refine ⟨ss ++ [s], by rw [List.length_append, e1]; rfl, (legalApp f ss [s] _).mpr ⟨l1, ?_, trivial⟩, ?_, pz⟩
      · rw [e2] at hs
        exact hs
      · subst e2
        unfold ext1 thOf thAt endSt
        rw [List.map_append, List.foldl_append]
        rfl
    · rintro ⟨ss, e1, l1, er, p⟩
      obtain ⟨a, s, rfl⟩ : ∃ a s, ss = a ++ [s] := by
        rcases List.eq_nil_or_concat ss with h | ⟨b, s, h⟩
        · rw [h] at e1
          cases e1
        · exact ⟨b, s, by rw [h, List.concat_eq_append]⟩
      obtain ⟨l2, l3, _⟩ := (legalApp f a [s] _).mp l1
      have la : a.length = i := by
        rw [List.length_append] at e1
        exact Nat.succ.inj e1
      have ez : endSt (0, none) (a ++ [s]) = go (endSt (0, none) a) s := by
        unfold endSt
        rw [List.foldl_append]
        rfl
      have pz : 0 < cnt f (f.th.length - (i + 1)) (go (endSt (0, none) a) s) := by
        rw [er] at p
        rw [← ez]
        exact p
      have pa : 0 < cnt f (f.th.length - i) (endSt (0, none) a) := by
        rw [en]
        show 0 < ((nexts f (endSt (0, none) a)).map fun s => cnt f (f.th.length - (i + 1)) (go (endSt (0, none) a) s)).sum
        exact sumPos.mpr ⟨_, List.mem_map.mpr ⟨s, l3, rfl⟩, pz⟩
      refine List.mem_flatMap.mpr ⟨(thOf f a, endSt (0, none) a), (ih _).mpr ⟨a, la, l2, rfl, pa⟩, List.mem_map.mpr ⟨go (endSt (0, none) a) s, List.mem_filter.mpr ⟨List.mem_map.mpr ⟨s, l3, rfl⟩, decide_eq_true pz⟩, ?_⟩⟩
      rw [er, ez]
      unfold ext1 thOf thAt
      rw [List.map_append]
      rfl
theorem ordersMem {k : Kept} {w : List Int} : w ∈ ordersOf k ↔ ∃ ss : List Nat, ss.length = k.threads.length ∧ legal (fdOf k) (0, none) ss ∧ w = thOf (fdOf k) ss := by
  unfold ordersOf
  by_cases h : 0 < total k
  · rw [if_pos h]
    constructor
    · intro hw
      obtain ⟨r, hr, rfl⟩ := List.mem_map.mp hw
      obtain ⟨ss, e1, l1, e2, _⟩ := (rowsMem (f := fdOf k) h _ (Nat.le_refl _) r).mp hr
      exact ⟨ss, e1, l1, by rw [e2]⟩
    · rintro ⟨ss, e1, l1, rfl⟩
      refine List.mem_map.mpr ⟨(thOf (fdOf k) ss, endSt (0, none) ss), (rowsMem (f := fdOf k) h _ (Nat.le_refl _) _).mpr ⟨ss, e1, l1, rfl, ?_⟩, rfl⟩
      rw [Nat.sub_self]
      exact Nat.one_pos
  · rw [if_neg h]
    constructor
    · intro z
      cases z
    · rintro ⟨ss, e1, l1, rfl⟩
      exact absurd ((cntPos (fdOf k) _ _).mpr ⟨ss, e1, l1⟩) h
theorem firstRow {f : FD} (h0 : 0 < cnt f f.th.length (0, none)) : ∀ i, i ≤ f.th.length → ((firstSt f i).2, (firstSt f i).1) ∈ rowsAt f i
  | 0, _ => List.mem_singleton.mpr rfl
  | i + 1, hi => by
    have ih := firstRow h0 i (by omega)
    obtain ⟨_, p⟩ := firstOk h0 i (by omega)
    have en : f.th.length - i = (f.th.length - (i + 1)) + 1 := by omega
    rw [en] at p
    obtain ⟨z, r, hz⟩ := liveSome p
    refine List.mem_flatMap.mpr ⟨_, ih, List.mem_map.mpr ⟨hdSt (live f (f.th.length - (i + 1)) (firstSt f i).1), ?_, rfl⟩⟩
    rw [hz]
    exact List.mem_cons_self
theorem onlyFirst {k : Kept} (h : total k = 1) {w : List Int} : w ∈ ordersOf k ↔ w = firstO (fdOf k) := by
  have h0 : 0 < cnt (fdOf k) (fdOf k).th.length (0, none) := by
    have : total k = cnt (fdOf k) (fdOf k).th.length (0, none) := rfl
    omega
  have e : ordersOf k = (rowsAt (fdOf k) (fdOf k).th.length).map (·.1) := if_pos h0
  have hf := firstRow h0 _ (Nat.le_refl _)
  have len : (rowsAt (fdOf k) (fdOf k).th.length).length ≤ 1 := by
    have := rowsLen h0 (Nat.le_refl (fdOf k).th.length)
    have e2 : total k = cnt (fdOf k) (fdOf k).th.length (0, none) := rfl
    omega
  rw [e]
  obtain ⟨r, hr⟩ : ∃ r, rowsAt (fdOf k) (fdOf k).th.length = [r] := by
    cases hl : rowsAt (fdOf k) (fdOf k).th.length with
    | nil =>
      rw [hl] at hf
      cases hf
    | cons r t =>
      rw [hl, List.length_cons] at len
      have : t = [] := List.eq_nil_of_length_eq_zero (by omega)
      rw [this]
      exact ⟨r, rfl⟩
  rw [hr] at hf ⊢
  have er := List.mem_singleton.mp hf
  rw [List.map_cons, List.map_nil, List.mem_singleton]
  unfold firstO
  rw [← er]
/-! ### legal, place by place -/
theorem nextsMem {f : FD} {st : State} {s : Nat} : s ∈ nexts f st ↔ s < f.th.length ∧ ¬ tb (barred f st) s ∧ ∀ y, tb (f.ah.getD s 0) y → tb st.1 y := by
  unfold nexts
  rw [List.mem_filter, List.mem_filter, List.mem_range]
  have e : (decide (f.ah.getD s 0 &&& st.1 = f.ah.getD s 0) = true) ↔ ∀ y, tb (f.ah.getD s 0) y → tb st.1 y := by
    rw [decide_eq_true_iff]
    constructor
    · intro h y hy
      have h2 : tb (f.ah.getD s 0 &&& st.1) y := by
        rw [h]
        exact hy
      have h3 : (f.ah.getD s 0 &&& st.1).testBit y = true := h2
      rw [Nat.testBit_and, Bool.and_eq_true] at h3
      exact h3.2
    · intro h
      refine Nat.eq_of_testBit_eq fun y => ?_
      rw [Nat.testBit_and]
      cases hb : (f.ah.getD s 0).testBit y with
      | false => rfl
      | true =>
        have : st.1.testBit y = true := h y hb
        rw [this]
        rfl
  rw [e]
  have e2 : ((!(barred f st).testBit s) = true) ↔ ¬ tb (barred f st) s := by
    show _ ↔ ¬ (barred f st).testBit s = true
    cases (barred f st).testBit s <;> simp
  rw [e2, and_assoc]
theorem endEq (a : List Nat) : endSt (0, none) a = (bitsOf a, a.getLast?) := by
  rcases List.eq_nil_or_concat a with h | ⟨b, s, h⟩
  · rw [h]
    rfl
  · subst h
    unfold endSt bitsOf
    rw [List.concat_eq_append, List.foldl_append, List.foldl_append, List.getLast?_append]
    have fst : ∀ (l : List Nat) (st : State), (l.foldl go st).1 = l.foldl (fun a s => a ||| 2 ^ s) st.1 := fun l => by
      induction l with
      | nil => exact fun _ => rfl
      | cons c l ih => exact fun st => ih _
    show (((b.foldl go (0, none)).1 ||| 2 ^ s, some s) : State) = _
    rw [fst b (0, none)]
    rfl
theorem legalIff (f : FD) (ss : List Nat) : ∀ st : State, legal f st ss ↔ ∀ a s b, ss = a ++ s :: b → s ∈ nexts f (endSt st a) := by
  induction ss with
  | nil =>
    intro st
    refine ⟨fun _ a s b e => ?_, fun _ => trivial⟩
    have := congrArg List.length e
    simp at this
  | cons c ss ih =>
    intro st
    show (c ∈ nexts f st ∧ legal f (go st c) ss) ↔ _
    rw [ih]
    constructor
    · rintro ⟨h1, h2⟩ a s b e
      cases a with
      | nil =>
        rw [List.nil_append] at e
        rw [← (List.cons.inj e).1]
        exact h1
      | cons d a =>
        rw [List.cons_append] at e
        obtain ⟨e1, e2⟩ := List.cons.inj e
        subst e1
        exact h2 a s b e2
    · intro h
      exact ⟨h [] c ss rfl, fun a s b e => h (c :: a) s b (by rw [e]; rfl)⟩
theorem legal0 (f : FD) (ss : List Nat) : legal f (0, none) ss ↔ ∀ a s b, ss = a ++ s :: b → s < f.th.length ∧ s ∉ a ∧ (∀ l, a.getLast? = some l → ¬ tb (f.be.getD l 0) s) ∧ ∀ y, tb (f.ah.getD s 0) y → y ∈ a := by
  rw [legalIff]
  refine forall_congr' fun a => forall_congr' fun s => forall_congr' fun b => imp_congr Iff.rfl ?_
  rw [nextsMem, endEq]
  refine and_congr Iff.rfl ?_
  have e2 : (∀ y, tb (f.ah.getD s 0) y → tb (bitsOf a) y) ↔ ∀ y, tb (f.ah.getD s 0) y → y ∈ a := forall_congr' fun y => imp_congr Iff.rfl tbBits
  show (¬ tb (barred f (bitsOf a, a.getLast?)) s ∧ ∀ y, tb (f.ah.getD s 0) y → tb (bitsOf a) y) ↔ _
  rw [e2]
  unfold barred
  cases hl : a.getLast? with
  | none =>
    show (¬ tb (bitsOf a) s ∧ _) ↔ _
    rw [tbBits]
    exact ⟨fun ⟨h1, h2⟩ => ⟨h1, (fun l z => nomatch z), h2⟩, fun ⟨h1, _, h2⟩ => ⟨h1, h2⟩⟩
  | some l =>
    show (¬ tb (bitsOf a ||| f.be.getD l 0) s ∧ _) ↔ _
    rw [tbOr, tbBits]
    constructor
    · rintro ⟨h1, h2⟩
      refine ⟨fun z => h1 (.inl z), fun l' z => ?_, h2⟩
      cases z
      exact fun z => h1 (.inr z)
    · rintro ⟨h1, h3, h2⟩
      exact ⟨fun z => z.elim h1 (h3 l rfl), h2⟩
end Wk
set_option Elab.async false
set_option linter.all false
set_option maxRecDepth 100000
set_option maxHeartbeats 400000
/-! The plain law: orders stand as fits says. -/
namespace Wk
open PySem PySem.Spec PyProof.Rows L2
section
variable {α : Type}
theorem befCons1 {x y c : α} {l : List α} : Bef (c :: l) y x ↔ (y = c ∧ x ∈ l) ∨ Bef l y x := by
  constructor
  · rintro ⟨a, b, e, h⟩
    cases a with
    | nil => cases h
    | cons d a =>
      rw [List.cons_append] at e
      obtain ⟨e1, e2⟩ := List.cons.inj e
      subst e1
      rcases List.mem_cons.mp h with h | h
      · exact .inl ⟨h, by rw [e2]; exact List.mem_append_right _ List.mem_cons_self⟩
      · exact .inr ⟨a, b, e2, h⟩
  · rintro (⟨rfl, h⟩ | ⟨a, b, e, h⟩)
    · obtain ⟨a, b, rfl⟩ := List.append_of_mem h
      exact ⟨y :: a, b, rfl, List.mem_cons_self⟩
    · exact ⟨c :: a, b, by rw [e]; rfl, List.mem_cons_of_mem _ h⟩
theorem pwBef {R : α → α → Prop} : ∀ {l : List α}, l.Pairwise R ↔ ∀ y x, Bef l y x → R y x
  | [] => ⟨fun _ y x ⟨a, b, e, _⟩ => by
      have := congrArg List.length e
      simp at this, fun _ => .nil⟩
  | c :: l => by
    rw [List.pairwise_cons, pwBef (l := l)]
    constructor
    · rintro ⟨h1, h2⟩ y x hb
      rcases befCons1.mp hb with ⟨rfl, h⟩ | h
      · exact h1 x h
      · exact h2 y x h
    · intro h
      exact ⟨fun x hx => h c x (befCons1.mpr (.inl ⟨rfl, hx⟩)), fun y x hb => h y x (befCons1.mpr (.inr hb))⟩
theorem befMem {l : List α} {y x : α} (h : Bef l y x) : y ∈ l ∧ x ∈ l := by
  obtain ⟨a, b, rfl, h⟩ := h
  exact ⟨List.mem_append_left _ h, List.mem_append_right _ List.mem_cons_self⟩
theorem splitUniq {v : α} : ∀ {a a' b b' : List α}, (a ++ v :: b).Nodup → a ++ v :: b = a' ++ v :: b' → a = a'
  | [], [], _, _, _, _ => rfl
  | [], c :: a', b, b', n, e => by
    rw [List.nil_append, List.cons_append] at e
    obtain ⟨e1, e2⟩ := List.cons.inj e
    rw [List.nil_append, e2] at n
    exact absurd (List.mem_append_right _ List.mem_cons_self) (List.nodup_cons.mp n).1
  | c :: a, [], b, b', n, e => by
    rw [List.nil_append, List.cons_append] at e
    obtain ⟨e1, e2⟩ := List.cons.inj e
    rw [List.cons_append, e1] at n
    exact absurd (List.mem_append_right _ List.mem_cons_self) (List.nodup_cons.mp n).1
  | c :: a, d :: a', b, b', n, e => by
    rw [List.cons_append, List.cons_append] at e
    obtain ⟨e1, e2⟩ := List.cons.inj e
    rw [e1, splitUniq (List.nodup_cons.mp n).2 e2]
/-- where v stands, what stands before -/
theorem befAt {w a b : List α} {u v : α} (n : w.Nodup) (e : w = a ++ v :: b) : Bef w u v ↔ u ∈ a := by
  constructor
  · rintro ⟨a', b', e', h⟩
    rw [e] at n e'
    rw [splitUniq n e']
    exact h
  · exact fun h => ⟨a, b, e, h⟩
theorem befAnti {w : List α} {u v : α} (n : w.Nodup) (h : Bef w u v) (h' : Bef w v u) : False := by
  obtain ⟨a, b, e, hu⟩ := h
  obtain ⟨x, y, rfl⟩ := List.append_of_mem hu
  have e2 : w = x ++ u :: (y ++ v :: b) := by rw [e]; simp
  have hv := (befAt n e2).mp h'
  rw [e] at n
  exact (List.nodup_append.mp n).2.2 v (List.mem_append_left _ hv) v List.mem_cons_self rfl
theorem befTotal {w : List α} {u v : α} (hu : u ∈ w) (hv : v ∈ w) (ne : u ≠ v) : Bef w u v ∨ Bef w v u := by
  obtain ⟨a, b, e⟩ := List.append_of_mem hv
  rw [e] at hu
  rcases List.mem_append.mp hu with h | h
  · exact .inl ⟨a, b, e, h⟩
  · rcases List.mem_cons.mp h with h | h
    · exact absurd h ne
    · obtain ⟨x, y, rfl⟩ := List.append_of_mem h
      exact .inr ⟨a ++ v :: x, y, by rw [e]; simp, List.mem_append_right _ List.mem_cons_self⟩
theorem pwSelf {w : List α} : w.Pairwise (Bef w) := pwBef.mpr fun _ _ h => h
theorem adj : ∀ {w : List α} {u v : α}, (u, v) ∈ w.zip (w.drop 1) ↔ ∃ a b, w = a ++ v :: b ∧ a.getLast? = some u
  | [], u, v => ⟨fun h => (by cases h), fun ⟨a, b, e, _⟩ => by
      have := congrArg List.length e
      simp at this⟩
  | [c], u, v => ⟨fun h => (by cases h), fun ⟨a, b, e, h⟩ => by
      cases a with
      | nil => cases h
      | cons d a =>
        have := congrArg List.length e
        simp at this⟩
  | c :: d :: r, u, v => by
    show (u, v) ∈ (c, d) :: (d :: r).zip ((d :: r).drop 1) ↔ _
    rw [List.mem_cons, adj (w := d :: r)]
    constructor
    · rintro (h | ⟨a, b, e, h⟩)
      · obtain ⟨rfl, rfl⟩ := Prod.mk.inj h
        exact ⟨[u], r, rfl, rfl⟩
      · refine ⟨c :: a, b, by rw [e]; rfl, ?_⟩
        rw [List.getLast?_cons, h]
        rfl
    · rintro ⟨a, b, e, h⟩
      cases a with
      | nil => cases h
      | cons x a =>
        rw [List.cons_append] at e
        obtain ⟨e1, e2⟩ := List.cons.inj e
        subst e1
        cases a with
        | nil =>
          rw [List.nil_append] at e2
          rw [← (List.cons.inj e2).1]
          cases h
          exact .inl rfl
        | cons y a =>
          refine .inr ⟨y :: a, b, e2, ?_⟩
          rw [List.getLast?_cons_cons] at h
          exact h
end
/-! ### what fits, place by place -/
theorem stickIff {w s : List Int} (nw : w.Nodup) (ns : s.Nodup) (sub : ∀ u ∈ s, u ∈ w) : w.filter (fun t => decide (t ∈ s)) = s ↔ ∀ u v, Bef s u v → Bef w u v := by
  constructor
  · intro h u v hb
    have : s.Pairwise (Bef w) := by
      conv => rhs; rw [← h]
      exact pwSelf.sublist List.filter_sublist
    exact pwBef.mp this u v hb
  · intro h
    have p : (w.filter fun t => decide (t ∈ s)).Perm s := by
      refine (List.perm_ext_iff_of_nodup (nw.filter _) ns).mpr fun t => ?_
      rw [List.mem_filter]
      exact ⟨fun z => of_decide_eq_true z.2, fun z => ⟨sub t z, decide_eq_true z⟩⟩
    exact p.eq_of_pairwise (le := Bef w) (fun a b _ _ h1 h2 => (befAnti nw h1 h2).elim) (pwSelf.sublist List.filter_sublist) (pwBef.mpr h)
theorem togIff {w s : List Int} : together s w = false ↔ ∀ a v b, w = a ++ v :: b → ∀ u, a.getLast? = some u → ¬ (u ∈ s ∧ v ∈ s) := by
  unfold together
  rw [← Bool.not_eq_true, List.any_eq_true]
  constructor
  · intro h a v b e u hu ⟨h1, h2⟩
    refine h ⟨true, List.mem_map.mpr ⟨(u, v), adj.mpr ⟨a, b, e, hu⟩, ?_⟩, rfl⟩
    show (decide (u ∈ s) && decide (v ∈ s)) = true
    rw [decide_eq_true h1, decide_eq_true h2]
    rfl
  · rintro h ⟨x, hx, e⟩
    obtain ⟨⟨u, v⟩, hp, rfl⟩ := List.mem_map.mp hx
    obtain ⟨a, b, e1, e2⟩ := adj.mp hp
    have e' : (decide (u ∈ s) && decide (v ∈ s)) = true := e
    rw [Bool.and_eq_true] at e'
    exact h a v b e1 u e2 ⟨of_decide_eq_true e'.1, of_decide_eq_true e'.2⟩
/-- where a thread's bundle stands -/
theorem lkMem {es : List (Int × Int)} (n : (es.map (·.1)).Nodup) {t i : Int} : lk es t = some i ↔ (t, i) ∈ es := by
  induction es with
  | nil => exact ⟨fun h => (by cases h), fun h => (by cases h)⟩
  | cons e es ih =>
    rw [lkCons, List.mem_cons]
    rw [List.map_cons, List.nodup_cons] at n
    by_cases h : e.1 = t
    · rw [if_pos h]
      constructor
      · intro z
        left
        rw [← Option.some.inj z, ← h]
      · rintro (z | z)
        · rw [← z]
        · exact absurd (List.mem_map.mpr ⟨(t, i), z, h.symm⟩) n.1
    · rw [if_neg h, ih n.2]
      exact ⟨.inr, fun z => z.elim (fun z => absurd (by rw [← z]) h) id⟩
theorem entMem {rows : List (List Int)} {t i : Int} : (t, i) ∈ entries rows ↔ ∃ (j : Nat) (r : List Int), rows[j]? = some r ∧ t ∈ r ∧ i = (j : Int) := by
  unfold entries
  rw [List.mem_flatMap]
  constructor
  · rintro ⟨d, hd, h⟩
    obtain ⟨j, hj⟩ := List.getElem?_of_mem hd
    rw [numAt] at hj
    obtain ⟨r, hr, rfl⟩ := Option.map_eq_some_iff.mp hj
    obtain ⟨t', ht, e⟩ := List.mem_map.mp h
    obtain ⟨e1, e2⟩ := Prod.mk.inj e
    rw [← e1, ← e2]
    exact ⟨j, r, hr, ht, rfl⟩
  · rintro ⟨j, r, hr, ht, rfl⟩
    refine ⟨((j : Int), r), List.mem_of_getElem? (i := j) (by rw [numAt, hr]; rfl), List.mem_map.mpr ⟨t, ht, rfl⟩⟩
theorem befNum {rows : List (List Int)} {r r' : List Int} : Bef rows r' r ↔ ∃ i j : Nat, i < j ∧ rows[i]? = some r' ∧ rows[j]? = some r := by
  constructor
  · rintro ⟨a, b, rfl, h⟩
    obtain ⟨i, hi⟩ := List.getElem?_of_mem h
    have hl := (List.getElem?_eq_some_iff.mp hi).1
    exact ⟨i, a.length, hl, by rw [List.getElem?_append_left hl]; exact hi, by rw [List.getElem?_append_right (Nat.le_refl _), Nat.sub_self]; rfl⟩
  · rintro ⟨i, j, hij, hi, hj⟩
    obtain ⟨lj, ej⟩ := List.getElem?_eq_some_iff.mp hj
    refine ⟨rows.take j, rows.drop (j + 1), ?_, List.mem_of_getElem? (i := i) (by rw [List.getElem?_take, if_pos hij]; exact hi)⟩
    conv => lhs; rw [← List.take_append_drop j rows, List.drop_eq_getElem_cons lj, ej]
theorem srtIff {l : List Int} : l = srt l ↔ l.Pairwise (· ≤ ·) := ⟨fun h => by rw [h]; exact srt_le l, fun h => srt_eq (.refl _) h⟩
theorem bundIff {w : List Int} {rows : List (List Int)} (nw : w.Nodup) (nf : rows.flatten.Nodup) (sub : ∀ u ∈ rows.flatten, u ∈ w) : inBundles w rows = true ↔ ∀ r r' u v, Bef rows r' r → v ∈ r → u ∈ r' → Bef w u v := by
  have nk : ((entries rows).map (·.1)).Nodup := by
    rw [← entTakeAll]
    exact entNd nf _
  have ek : (entries rows).map (·.1) = rows.flatten := by
    rw [← entTakeAll, entKeys, List.take_length]
  have isS : ∀ t, (lk (entries rows) t).isSome = true ↔ t ∈ rows.flatten := fun t => by
    rw [← ek]
    constructor
    · intro h
      obtain ⟨i, hi⟩ := Option.isSome_iff_exists.mp h
      exact List.mem_map.mpr ⟨(t, i), (lkMem nk).mp hi, rfl⟩
    · intro h
      obtain ⟨⟨t', i⟩, hm, e⟩ := List.mem_map.mp h
      have e' : t' = t := e
      subst e'
      rw [(lkMem nk).mpr hm]
      rfl
  have num : ∀ {t : Int} {j : Nat} {r : List Int}, rows[j]? = some r → t ∈ r → (lk (entries rows) t).getD 0 = (j : Int) := fun {t j r} hr ht => by
    rw [(lkMem nk).mpr (entMem.mpr ⟨j, r, hr, ht, rfl⟩)]
    rfl
  have rowOf : ∀ {t : Int}, t ∈ rows.flatten → ∃ (j : Nat) (r : List Int), rows[j]? = some r ∧ t ∈ r := fun {t} h => by
    obtain ⟨r, hr, ht⟩ := List.mem_flatten.mp h
    obtain ⟨j, hj⟩ := List.getElem?_of_mem hr
    exact ⟨j, r, hj, ht⟩
  have len : (foundIn w (entries rows)).length = (entries rows).length := by
    unfold foundIn
    rw [List.length_map]
    have p : (w.filter fun t => (lk (entries rows) t).isSome).Perm rows.flatten := by
      refine (List.perm_ext_iff_of_nodup (nw.filter _) nf).mpr fun t => ?_
      rw [List.mem_filter, isS]
      exact ⟨fun z => z.2, fun z => ⟨sub t z, z⟩⟩
    rw [p.length_eq, ← ek, List.length_map]
  unfold inBundles
  rw [len, decide_eq_true rfl, Bool.true_and, decide_eq_true_iff, srtIff]
  unfold foundIn
  rw [List.pairwise_map, pwBef]
  have bf : ∀ u v, Bef (w.filter fun t => (lk (entries rows) t).isSome) u v ↔ Bef w u v ∧ u ∈ rows.flatten ∧ v ∈ rows.flatten := fun u v => by
    have nfil := nw.filter fun t => (lk (entries rows) t).isSome
    constructor
    · intro h
      obtain ⟨h1, h2⟩ := befMem h
      exact ⟨pwBef.mp (pwSelf.sublist List.filter_sublist) u v h, (isS u).mp (List.mem_filter.mp h1).2, (isS v).mp (List.mem_filter.mp h2).2⟩
    · rintro ⟨⟨a, b, e, hu⟩, h1, h2⟩
      refine ⟨a.filter fun t => (lk (entries rows) t).isSome, b.filter fun t => (lk (entries rows) t).isSome, ?_, List.mem_filter.mpr ⟨hu, (isS u).mpr h1⟩⟩
      rw [e, List.filter_append, List.filter_cons, if_pos ((isS v).mpr h2)]
  constructor
  · intro h r r' u v hb hv hu
    obtain ⟨i, j, hij, hi, hj⟩ := befNum.mp hb
    have fu : u ∈ rows.flatten := List.mem_flatten.mpr ⟨r', List.mem_of_getElem? hi, hu⟩
    have fv : v ∈ rows.flatten := List.mem_flatten.mpr ⟨r, List.mem_of_getElem? hj, hv⟩
    have ne : u ≠ v := fun z => by
      have e1 := num hi hu
      have e2 := num hj hv
      rw [z] at e1
      omega
    rcases befTotal (sub u fu) (sub v fv) ne with h1 | h1
    · exact h1
    · have := h v u ((bf v u).mpr ⟨h1, fv, fu⟩)
      rw [num hi hu, num hj hv] at this
      omega
  · intro h u v hb
    obtain ⟨h1, fu, fv⟩ := (bf u v).mp hb
    obtain ⟨i, r', hi, hu⟩ := rowOf fu
    obtain ⟨j, r, hj, hv⟩ := rowOf fv
    rw [num hi hu, num hj hv]
    rcases Nat.lt_or_ge j i with hlt | hge
    · exact (befAnti nw h1 (h r' r v u (befNum.mpr ⟨j, i, hlt, hj, hi⟩) hu hv)).elim
    · omega
/-- what an order must keep -/
structure Keeps (k : Kept) (w : List Int) : Prop where
  apart : ∀ c ∈ k.crosses, ∀ s ∈ c, ∀ a v b, w = a ++ v :: b → ∀ u, a.getLast? = some u → ¬ (u ∈ s ∧ v ∈ s)
  stick : ∀ c ∈ k.crosses, ∀ s ∈ c, ∀ u v, Bef s u v → Bef w u v
  bund : ∀ r r' u v, Bef k.bundles r' r → v ∈ r → u ∈ r' → Bef w u v
theorem fitsIff {k : Kept} {w : List Int} (g : GoodK k) (p : w.Perm k.threads) : fitsB w k = true ↔ Keeps k w := by
  have nw : w.Nodup := p.nodup_iff.mpr g.thr.nd
  have sb : ∀ u ∈ k.bundles.flatten, u ∈ w := fun u h => p.mem_iff.mpr (g.sub u (List.mem_append_left _ h))
  have sc : ∀ c ∈ k.crosses, ∀ s ∈ c, ∀ u ∈ s, u ∈ w := fun c hc s hs u hu => p.mem_iff.mpr (g.sub u (List.mem_append_right _ (List.mem_flatten.mpr ⟨s, List.mem_flatten.mpr ⟨c, hc, hs⟩, hu⟩)))
  have e1 : srt w = k.threads := by
    have := srt_eq (ns := k.threads) (ms := srt w) ((srt_perm w).trans p) (srt_le w)
    rw [this, ← g.rise]
  unfold fitsB
  rw [decide_eq_true e1, Bool.true_and, Bool.and_eq_true, bundIff nw g.bund.nd sb, List.all_eq_true]
  constructor
  · rintro ⟨h1, h2⟩
    have side : ∀ c ∈ k.crosses, ∀ s ∈ c, onSide w s = true := fun c hc s hs => by
      have := h2 (onSticks w c) (List.mem_map.mpr ⟨c, hc, rfl⟩)
      exact List.all_eq_true.mp this s hs
    refine ⟨fun c hc s hs => togIff.mp ?_, fun c hc s hs => (stickIff nw ((g.cross c hc).1.all s hs).nd (sc c hc s hs)).mp ?_, h1⟩
    · have := side c hc s hs
      unfold onSide at this
      rw [Bool.and_eq_true, Bool.not_eq_true'] at this
      exact this.2
    · have := side c hc s hs
      unfold onSide at this
      rw [Bool.and_eq_true] at this
      exact of_decide_eq_true this.1
  · intro h
    refine ⟨h.bund, fun x hx => ?_⟩
    obtain ⟨c, hc, rfl⟩ := List.mem_map.mp hx
    refine List.all_eq_true.mpr fun s hs => ?_
    unfold onSide
    rw [decide_eq_true ((stickIff nw ((g.cross c hc).1.all s hs).nd (sc c hc s hs)).mpr (h.stick c hc s hs)), togIff.mpr (h.apart c hc s hs)]
    rfl
end Wk
set_option Elab.async false
set_option linter.all false
set_option maxRecDepth 100000
set_option maxHeartbeats 400000
/-! The plain law: the orders are what fits. -/
namespace Wk
open PySem PySem.Spec PyProof.Rows L2
theorem idxGet {th : List Int} {t : Int} (h : t ∈ th) : th.getD (th.idxOf t) 0 = t := by
  have hl := List.idxOf_lt_length_of_mem h
  rw [List.getD_eq_getElem?_getD, List.getElem?_eq_getElem hl]
  exact List.getElem_idxOf hl
theorem idxInj {th : List Int} {t u : Int} (h : t ∈ th) (hu : u ∈ th) (e : th.idxOf t = th.idxOf u) : t = u := by
  rw [← idxGet h, e, idxGet hu]
theorem getIdx {th : List Int} (n : th.Nodup) {s : Nat} (h : s < th.length) : th.idxOf (th.getD s 0) = s := by
  have e : th.getD s 0 = th[s] := by
    rw [List.getD_eq_getElem?_getD, List.getElem?_eq_getElem h]
    rfl
  rw [e]
  have hm : th[s] ∈ th := List.getElem_mem h
  have hl := List.idxOf_lt_length_of_mem hm
  exact (List.getElem_inj n).mp (List.getElem_idxOf hl)
theorem idxsMem {th s : List Int} {v : Int} (hs : ∀ u ∈ s, u ∈ th) (hv : v ∈ th) : th.idxOf v ∈ idxs th s ↔ v ∈ s := by
  unfold idxs
  rw [List.mem_map]
  exact ⟨fun ⟨u, hu, e⟩ => by rw [← idxInj (hs u hu) hv e]; exact hu, fun h => ⟨v, h, rfl⟩⟩
theorem idxsBef {th s : List Int} {v : Int} {y : Nat} (hs : ∀ u ∈ s, u ∈ th) (hv : v ∈ th) : Bef (idxs th s) y (th.idxOf v) ↔ ∃ u, Bef s u v ∧ y = th.idxOf u := by
  unfold idxs
  constructor
  · rintro ⟨a, b, e, h⟩
    obtain ⟨a', r', e1, e2, e3⟩ := List.map_eq_append_iff.mp e
    obtain ⟨v', b', e4, e5, e6⟩ := List.map_eq_cons_iff.mp e3
    subst e1 e4
    have ev : v' = v := idxInj (hs v' (List.mem_append_right _ List.mem_cons_self)) hv e5
    subst ev
    rw [← e2] at h
    obtain ⟨u, hu, rfl⟩ := List.mem_map.mp h
    exact ⟨u, ⟨a', b', rfl, hu⟩, rfl⟩
  · rintro ⟨u, ⟨a, b, rfl, h⟩, rfl⟩
    exact ⟨a.map th.idxOf, b.map th.idxOf, by rw [List.map_append, List.map_cons], List.mem_map.mpr ⟨u, h, rfl⟩⟩
theorem legalKeeps {k : Kept} {w : List Int} (g : GoodK k) (p : w.Perm k.threads) : legal (fdOf k) (0, none) (idxs k.threads w) ↔ Keeps k w := by
  have nw : w.Nodup := p.nodup_iff.mpr g.thr.nd
  have wt : ∀ u ∈ w, u ∈ k.threads := fun u h => p.mem_iff.mp h
  have bt : ∀ r ∈ k.bundles, ∀ u ∈ r, u ∈ k.threads := fun r hr u h => g.sub u (List.mem_append_left _ (List.mem_flatten.mpr ⟨r, hr, h⟩))
  have ct : ∀ c ∈ k.crosses, ∀ s ∈ c, ∀ u ∈ s, u ∈ k.threads := fun c hc s hs u hu => g.sub u (List.mem_append_right _ (List.mem_flatten.mpr ⟨s, List.mem_flatten.mpr ⟨c, hc, hs⟩, hu⟩))
  have lt : ∀ {u}, u ∈ k.threads → k.threads.idxOf u < k.threads.length := fun h => List.idxOf_lt_length_of_mem h
  have ahead : ∀ {v}, v ∈ k.threads → ∀ y, tb ((fdOf k).ah.getD (k.threads.idxOf v) 0) y ↔ ∃ u ∈ k.threads, y = k.threads.idxOf u ∧ ((∃ c ∈ k.crosses, ∃ s ∈ c, Bef s u v) ∨ ∃ r r', Bef k.bundles r' r ∧ v ∈ r ∧ u ∈ r') := fun {v} hv y => by
    rw [aheadTb (lt hv)]
    constructor
    · rintro (⟨c, hc, s, hs, hb⟩ | ⟨r, r', hb, h1, h2⟩)
      · obtain ⟨u, hu, e⟩ := (idxsBef (ct c hc s hs) hv).mp hb
        exact ⟨u, ct c hc s hs u (befMem hu).1, e, .inl ⟨c, hc, s, hs, hu⟩⟩
      · obtain ⟨a, b, e, ha⟩ := hb
        obtain ⟨a', q', e1, e2, e3⟩ := List.map_eq_append_iff.mp e
        obtain ⟨r0, b', e4, e5, e6⟩ := List.map_eq_cons_iff.mp e3
        rw [← e2] at ha
        obtain ⟨r1, hr1, rfl⟩ := List.mem_map.mp ha
        have m0 : r0 ∈ k.bundles := by
          rw [e1, e4]
          exact List.mem_append_right _ List.mem_cons_self
        have m1 : r1 ∈ k.bundles := by
          rw [e1]
          exact List.mem_append_left _ hr1
        rw [← e5] at h1
        obtain ⟨u, hu, eu⟩ := List.mem_map.mp h2
        exact ⟨u, bt r1 m1 u hu, eu.symm, .inr ⟨r0, r1, ⟨a', b', by rw [e1, e4], hr1⟩, (idxsMem (bt r0 m0) hv).mp h1, hu⟩⟩
    · rintro ⟨u, hu, rfl, (⟨c, hc, s, hs, hb⟩ | ⟨r, r', ⟨a, b, e, ha⟩, h1, h2⟩)⟩
      · exact .inl ⟨c, hc, s, hs, (idxsBef (ct c hc s hs) hv).mpr ⟨u, hb, rfl⟩⟩
      · exact .inr ⟨idxs k.threads r, idxs k.threads r', ⟨a.map (idxs k.threads), b.map (idxs k.threads), by rw [e, List.map_append, List.map_cons], List.mem_map.mpr ⟨r', ha, rfl⟩⟩, List.mem_map.mpr ⟨v, h1, rfl⟩, List.mem_map.mpr ⟨u, h2, rfl⟩⟩
  have beside : ∀ {u v}, u ∈ k.threads → v ∈ k.threads → (tb ((fdOf k).be.getD (k.threads.idxOf u) 0) (k.threads.idxOf v) ↔ ∃ c ∈ k.crosses, ∃ s ∈ c, u ∈ s ∧ v ∈ s) := fun {u v} hu hv => by
    rw [besideTb (lt hu)]
    constructor
    · rintro ⟨c, hc, s, hs, h1, h2⟩
      exact ⟨c, hc, s, hs, (idxsMem (ct c hc s hs) hu).mp h1, (idxsMem (ct c hc s hs) hv).mp h2⟩
    · rintro ⟨c, hc, s, hs, h1, h2⟩
      exact ⟨c, hc, s, hs, (idxsMem (ct c hc s hs) hu).mpr h1, (idxsMem (ct c hc s hs) hv).mpr h2⟩
  rw [legal0]
  constructor
  · intro h
    have at' : ∀ a v b, w = a ++ v :: b → (∀ u, a.getLast? = some u → ¬ ∃ c ∈ k.crosses, ∃ s ∈ c, u ∈ s ∧ v ∈ s) ∧ ∀ u ∈ k.threads, ((∃ c ∈ k.crosses, ∃ s ∈ c, Bef s u v) ∨ ∃ r r', Bef k.bundles r' r ∧ v ∈ r ∧ u ∈ r') → u ∈ a := fun a v b e => by
      have hv : v ∈ k.threads := wt v (by rw [e]; exact List.mem_append_right _ List.mem_cons_self)
      have ha : ∀ u ∈ a, u ∈ k.threads := fun u hu => wt u (by rw [e]; exact List.mem_append_left _ hu)
      obtain ⟨_, _, h3, h4⟩ := h (idxs k.threads a) (k.threads.idxOf v) (idxs k.threads b) (by unfold idxs; rw [e, List.map_append, List.map_cons])
      refine ⟨fun u hu z => ?_, fun u hu z => ?_⟩
      · have hum : u ∈ a := List.mem_of_getLast? hu
        exact h3 (k.threads.idxOf u) (by unfold idxs; rw [List.getLast?_map, hu]; rfl) ((beside (ha u hum) hv).mpr z)
      · exact (idxsMem ha hu).mp (h4 _ ((ahead hv _).mpr ⟨u, hu, rfl, z⟩))
    refine ⟨fun c hc s hs a v b e u hu z => (at' a v b e).1 u hu ⟨c, hc, s, hs, z⟩, fun c hc s hs u v hb => ?_, fun r r' u v hb hv hu => ?_⟩
    · have hv := ct c hc s hs v (befMem hb).2
      obtain ⟨a, b, e⟩ := List.append_of_mem (p.mem_iff.mpr hv)
      exact ⟨a, b, e, (at' a v b e).2 u (ct c hc s hs u (befMem hb).1) (.inl ⟨c, hc, s, hs, hb⟩)⟩
    · obtain ⟨m', m⟩ := befMem hb
      obtain ⟨a, b, e⟩ := List.append_of_mem (p.mem_iff.mpr (bt r m v hv))
      exact ⟨a, b, e, (at' a v b e).2 u (bt r' m' u hu) (.inr ⟨r, r', hb, hv, hu⟩)⟩
  · intro h a' s' b' e
    have e0 : w.map k.threads.idxOf = a' ++ s' :: b' := e
    obtain ⟨a, q, e1, e2, e3⟩ := List.map_eq_append_iff.mp e0
    obtain ⟨v, b, e4, e5, e6⟩ := List.map_eq_cons_iff.mp e3
    have ew : w = a ++ v :: b := by rw [e1, e4]
    have hv : v ∈ k.threads := wt v (by rw [ew]; exact List.mem_append_right _ List.mem_cons_self)
    have ha : ∀ u ∈ a, u ∈ k.threads := fun u hu => wt u (by rw [ew]; exact List.mem_append_left _ hu)
    have ea : a' = idxs k.threads a := e2.symm
    rw [ea, ← e5]
    refine ⟨lt hv, fun z => ?_, fun l hl z => ?_, fun y hy => ?_⟩
    · have hva := (idxsMem ha hv).mp z
      rw [ew] at nw
      exact (List.nodup_append.mp nw).2.2 v hva v List.mem_cons_self rfl
    · unfold idxs at hl
      rw [List.getLast?_map] at hl
      obtain ⟨u, hu, rfl⟩ := Option.map_eq_some_iff.mp hl
      have hum : u ∈ a := List.mem_of_getLast? hu
      obtain ⟨c, hc, s, hs, hz⟩ := (beside (ha u hum) hv).mp z
      exact h.apart c hc s hs a v b ew u hu hz
    · obtain ⟨u, hu, rfl, hz⟩ := (ahead hv y).mp hy
      refine (idxsMem ha hu).mpr ((befAt nw ew).mp ?_)
      rcases hz with ⟨c, hc, s, hs, hb⟩ | ⟨r, r', hb, h1, h2⟩
      · exact h.stick c hc s hs u v hb
      · exact h.bund r r' u v hb h1 h2
theorem idxsBack {k : Kept} {w : List Int} (h : ∀ u ∈ w, u ∈ k.threads) : thOf (fdOf k) (idxs k.threads w) = w := by
  unfold thOf idxs
  rw [List.map_map]
  conv => rhs; rw [← List.map_id w]
  exact List.map_congr_left fun t ht => idxGet (h t ht)
theorem ordersFit {k : Kept} {w : List Int} (g : GoodK k) (p : w.Perm k.threads) : w ∈ ordersOf k ↔ fitsB w k = true := by
  rw [fitsIff g p, ← legalKeeps g p, ordersMem]
  constructor
  · rintro ⟨ss, e, l, rfl⟩
    have lss : ∀ s ∈ ss, s < k.threads.length := fun s hs => by
      obtain ⟨a, b, e⟩ := List.append_of_mem hs
      exact ((legal0 (fdOf k) ss).mp l a s b e).1
    have es : idxs k.threads (thOf (fdOf k) ss) = ss := by
      unfold thOf idxs
      rw [List.map_map]
      conv => rhs; rw [← List.map_id ss]
      exact List.map_congr_left fun s hs => getIdx g.thr.nd (lss s hs)
    rw [es]
    exact l
  · intro l
    exact ⟨idxs k.threads w, by unfold idxs; rw [List.length_map, p.length_eq], l, (idxsBack fun u hu => p.mem_iff.mp hu).symm⟩
end Wk
set_option Elab.async false
set_option linter.all false
set_option maxRecDepth 100000
set_option maxHeartbeats 400000
/-! The plain law: what is asked. -/
namespace Wk
open PySem PySem.Spec PyProof.Rows L2
theorem noDents {a b : List Int} {t : Int} : fitsDents a b t [] = true := rfl
theorem noEyes {a b : List Int} {t : Int} : fitsEyes a b t [] = true := rfl
def holes (o : List Int) (t : Int) (k : Kept) : List Nat := (List.range (o.length + 1)).filter fun p => fitsB (putAt' o t p) k
theorem keptOnly {o : List Int} {t : Int} {k : Kept} (h : t ∈ k.threads) : placesN o t k [] [] = holes o t k := by
  unfold placesN holes
  refine List.filter_congr fun p _ => ?_
  unfold okPlace okKept
  rw [noDents, noEyes, decide_eq_true h]
  simp
theorem putPerm (o : List Int) (t : Int) (p : Nat) : (putAt' o t p).Perm (t :: o) := by
  unfold putAt'
  rw [List.append_assoc, List.singleton_append]
  exact List.perm_middle.trans (by rw [List.take_append_drop])
theorem putIdx {o : List Int} {t : Int} {p : Nat} (n : t ∉ o) (h : p ≤ o.length) : (putAt' o t p).idxOf t = p := by
  unfold putAt'
  rw [List.append_assoc, List.singleton_append]
  have : t ∉ o.take p := fun z => n (List.mem_of_mem_take z)
  rw [List.idxOf_append, if_neg this, List.idxOf_cons_self, List.length_take, Nat.min_eq_left h, Nat.zero_add]
theorem putOut {o : List Int} {t : Int} {p : Nat} (n : t ∉ o) : (putAt' o t p).filter (fun x => !decide (x = t)) = o := by
  unfold putAt'
  have f : ∀ l : List Int, t ∉ l → l.filter (fun x => !decide (x = t)) = l := fun l h => List.filter_eq_self.mpr fun x hx => by
    rw [Bool.not_eq_true', decide_eq_false]
    intro z
    rw [z] at hx
    exact h hx
  rw [List.filter_append, List.filter_append, f _ fun z => n (List.mem_of_mem_take z), f _ fun z => n (List.mem_of_mem_drop z)]
  have e : [t].filter (fun x => !decide (x = t)) = [] := by simp
  rw [e, List.append_nil, List.take_append_drop]
theorem firstPerm {k : Kept} (g : GoodK k) {w : List Int} (h : w ∈ ordersOf k) : w.Perm k.threads := by
  obtain ⟨ss, e, l, rfl⟩ := ordersMem.mp h
  have cond := (legal0 (fdOf k) ss).mp l
  have lss : ∀ s ∈ ss, s < k.threads.length := fun s hs => by
    obtain ⟨a, b, e⟩ := List.append_of_mem hs
    exact (cond a s b e).1
  have nd : ss.Nodup := pwBef.mpr fun y x ⟨a, b, e, hy⟩ z => by
    rw [z] at hy
    exact (cond a x b e).2.1 hy
  have ndw : (thOf (fdOf k) ss).Nodup := by
    unfold thOf List.Nodup
    rw [List.pairwise_map]
    exact List.Pairwise.imp_of_mem (R := fun a b => a ≠ b) (fun {s s'} hs hs' ne z => ne (thInj (f := fdOf k) g.thr.nd (lss s hs) (lss s' hs') z)) nd
  have sub : ∀ x ∈ thOf (fdOf k) ss, x ∈ k.threads := fun x hx => by
    obtain ⟨s, hs, rfl⟩ := List.mem_map.mp hx
    show k.threads.getD s 0 ∈ k.threads
    rw [List.getD_eq_getElem?_getD, List.getElem?_eq_getElem (lss s hs)]
    exact List.getElem_mem _
  refine (List.perm_ext_iff_of_nodup ndw g.thr.nd).mpr fun x => ⟨sub x, fun hx => Classical.byContradiction fun no => ?_⟩
  have := subLen (l := x :: thOf (fdOf k) ss) (m := k.threads) (List.nodup_cons.mpr ⟨no, ndw⟩) fun y hy => by
    rcases List.mem_cons.mp hy with z | z
    · rw [z]
      exact hx
    · exact sub y z
  rw [List.length_cons] at this
  unfold thOf at this
  rw [List.length_map, e] at this
  omega
theorem filterOne {n a : Nat} (h : a < n) : (List.range n).filter (fun p => decide (p = a)) = [a] := by
  induction n with
  | zero => omega
  | succ n ih =>
    rw [List.range_succ, List.filter_append]
    by_cases e : a = n
    · subst e
      have : (List.range a).filter (fun p => decide (p = a)) = [] := List.filter_eq_nil_iff.mpr fun p hp => by
        have := List.mem_range.mp hp
        simp
        omega
      rw [this]
      simp
    · rw [ih (by omega)]
      have : [n].filter (fun p => decide (p = a)) = [] := List.filter_eq_nil_iff.mpr fun p hp => by
        rw [List.mem_singleton.mp hp]
        simp
        omega
      rw [this]
      rfl
theorem toldHoles {o w : List Int} {t : Int} {k : Kept} (g : GoodK k) (p : (t :: o).Perm k.threads) (h : toldOf k = some w) : t ∈ w ∧ holes o t k = if w.filter (fun x => !decide (x = t)) = o then [w.idxOf t] else [] := by
  unfold toldOf at h
  by_cases h1 : total k = 1
  · rw [if_pos h1] at h
    have ew := Option.some.inj h
    have only : ∀ x, x ∈ ordersOf k ↔ x = w := fun x => by rw [← ew]; exact onlyFirst h1
    have wIn : w ∈ ordersOf k := (only w).mpr rfl
    have wp := firstPerm g wIn
    have tno : t ∉ o := (List.nodup_cons.mp (p.nodup_iff.mpr g.thr.nd)).1
    have tw : t ∈ w := (wp.trans p.symm).mem_iff.mpr List.mem_cons_self
    have fit : ∀ q, fitsB (putAt' o t q) k = true ↔ putAt' o t q = w := fun q => by
      rw [← ordersFit g ((putPerm o t q).trans p), only]
    refine ⟨tw, ?_⟩
    unfold holes
    by_cases hf : w.filter (fun x => !decide (x = t)) = o
    · rw [if_pos hf]
      obtain ⟨a, b, e⟩ := List.append_of_mem tw
      have nw : w.Nodup := wp.nodup_iff.mpr g.thr.nd
      have ta : t ∉ a := fun z => by
        rw [e] at nw
        exact (List.nodup_append.mp nw).2.2 t z t List.mem_cons_self rfl
      have tb' : t ∉ b := fun z => by
        rw [e] at nw
        exact (List.nodup_cons.mp (List.nodup_append.mp nw).2.1).1 z
      have f : ∀ l : List Int, t ∉ l → l.filter (fun x => !decide (x = t)) = l := fun l h => List.filter_eq_self.mpr fun x hx => by
        rw [Bool.not_eq_true', decide_eq_false]
        intro z
        rw [z] at hx
        exact h hx
      have eo : o = a ++ b := by
        rw [← hf, e, List.filter_append, List.filter_cons, if_neg (by simp), f a ta, f b tb']
      have ei : w.idxOf t = a.length := by
        rw [e, List.idxOf_append, if_neg ta, List.idxOf_cons_self, Nat.zero_add]
      have ep : putAt' o t a.length = w := by
        unfold putAt'
        rw [eo, e, List.take_left, List.drop_left, List.append_assoc, List.singleton_append]
      have la : a.length < o.length + 1 := by
        rw [eo, List.length_append]
        omega
      rw [ei, ← filterOne la]
      refine List.filter_congr fun q hq => ?_
      have hq' := List.mem_range.mp hq
      rw [Bool.eq_iff_iff, fit, decide_eq_true_iff]
      constructor
      · intro z
        rw [← putIdx tno (show q ≤ o.length by omega), z, ei]
      · intro z
        rw [z]
        exact ep
    · rw [if_neg hf]
      refine List.filter_eq_nil_iff.mpr fun q hq z => hf ?_
      rw [← (fit q).mp z]
      exact putOut tno
  · rw [if_neg h1] at h
    cases h
/-- the wholes, numbered, those kept -/
theorem numRange {α : Type} (f : Nat → α) (n : Nat) : numbered ((List.range n).map f) = (List.range n).map fun i => (((i : Nat) : Int), f i) := by
  refine List.ext_getElem? fun i => ?_
  rw [numAt, List.getElem?_map, List.getElem?_map]
  by_cases h : i < n
  · rw [List.getElem?_range h]
    rfl
  · rw [List.getElem?_eq_none (by rw [List.length_range]; omega)]
    rfl
theorem numFilter {α : Type} (f : Nat → α) (n : Nat) (q : α → Bool) : ((numbered ((List.range n).map f)).filter fun d => q d.2).map (·.1) = ((List.range n).filter fun i => q (f i)).map fun p : Nat => (p : Int) := by
  rw [numRange, List.filter_map, List.map_map]
  rfl
/-! ### without the thread -/
theorem leftSub (o l : List Int) : (leftOf o l).Sublist o := List.filter_sublist
theorem goodSub {o l : List Int} (h : GoodO o) (s : l.Sublist o) : GoodO l := ⟨Nat.le_trans s.length_le h.len, fun x hx => h.thr x (s.subset hx), h.nd.sublist s⟩
theorem flatSub (l : List Int) : ∀ rows : List (List Int), ((rows.map fun o => leftOf o l).flatten).Sublist rows.flatten
  | [] => .slnil
  | r :: rows => by
    rw [List.map_cons, List.flatten_cons, List.flatten_cons]
    exact (leftSub r l).append (flatSub l rows)
theorem flatNe : ∀ rows : List (List Int), (rows.filter fun o => !decide (o = [])).flatten = rows.flatten
  | [] => rfl
  | r :: rows => by
    by_cases h : r = []
    · rw [List.filter_cons, if_neg (by simp [h]), flatNe rows, h]
      rfl
    · rw [List.filter_cons, if_pos (by simp [h]), List.flatten_cons, List.flatten_cons, flatNe rows]
theorem goodBare {k : Kept} (g : GoodK k) (t : Int) : GoodK (without k t) := by
  have fb : (without k t).bundles.flatten = (k.bundles.map fun o => leftOf o [t]).flatten := flatNe _
  have sb : (without k t).bundles.flatten.Sublist k.bundles.flatten := by
    rw [fb]
    exact flatSub [t] k.bundles
  have sc : ((without k t).crosses.flatten.flatten).Sublist k.crosses.flatten.flatten := by
    show ((k.crosses.map fun c => c.map fun o => leftOf o [t]).flatten.flatten).Sublist _
    generalize k.crosses = cs
    induction cs with
    | nil => exact .slnil
    | cons c cs ih =>
      rw [List.map_cons, List.flatten_cons, List.flatten_append, List.flatten_cons, List.flatten_append]
      exact (flatSub [t] c).append ih
  have noT : ∀ x ∈ (without k t).bundles.flatten ++ (without k t).crosses.flatten.flatten, x ∉ [t] := fun x hx => by
    have inLeft : ∀ o : List Int, x ∈ leftOf o [t] → x ∉ [t] := fun o h => by
      have := (List.mem_filter.mp h).2
      simpa using this
    rcases List.mem_append.mp hx with h | h
    · rw [fb] at h
      obtain ⟨r, hr, hx⟩ := List.mem_flatten.mp h
      obtain ⟨o, _, rfl⟩ := List.mem_map.mp hr
      exact inLeft o hx
    · obtain ⟨s, hs, hx⟩ := List.mem_flatten.mp h
      obtain ⟨c, hc, hs⟩ := List.mem_flatten.mp hs
      have hc' : c ∈ k.crosses.map fun c => c.map fun o => leftOf o [t] := hc
      obtain ⟨c0, _, rfl⟩ := List.mem_map.mp hc'
      obtain ⟨o, _, rfl⟩ := List.mem_map.mp hs
      exact inLeft o hx
  refine ⟨goodSub g.thr (leftSub _ _), ?_, by show (k.crosses.map _).length ≤ 3; rw [List.length_map]; exact g.few, fun c hc => ?_, ?_, ?_, fun x hx => ?_⟩
  · refine srtIff.mpr ?_
    exact (srtIff.mp g.rise).sublist (leftSub _ _)
  · have hc' : c ∈ k.crosses.map fun c => c.map fun o => leftOf o [t] := hc
    obtain ⟨c0, h0, rfl⟩ := List.mem_map.mp hc'
    obtain ⟨a, e⟩ := g.cross c0 h0
    refine ⟨⟨by rw [List.length_map]; exact a.len, a.top, fun o ho => ?_, Nat.le_trans (flatSub [t] c0).length_le a.flat, a.nd.sublist (flatSub [t] c0)⟩, by rw [List.length_map]; exact e⟩
    obtain ⟨o0, h1, rfl⟩ := List.mem_map.mp ho
    exact goodSub (a.all o0 h1) (leftSub _ _)
  · have a := g.bund
    refine ⟨?_, a.top, fun o ho => ?_, Nat.le_trans sb.length_le a.flat, a.nd.sublist sb⟩
    · have h1 : (without k t).bundles.length ≤ k.bundles.length := by
        show ((k.bundles.map fun o => leftOf o [t]).filter _).length ≤ _
        refine Nat.le_trans (List.length_filter_le _ _) ?_
        rw [List.length_map]
        exact Nat.le_refl _
      have := a.len
      omega
    · have ho' : o ∈ (k.bundles.map fun o => leftOf o [t]).filter fun o => !decide (o = []) := ho
      obtain ⟨o0, h1, rfl⟩ := List.mem_map.mp (List.mem_filter.mp ho').1
      exact goodSub (a.all o0 h1) (leftSub _ _)
  · exact Nat.le_trans (Nat.add_le_add sb.length_le sc.length_le) g.flat
  · have h1 : x ∈ k.threads := g.sub x (by
      rcases List.mem_append.mp hx with h | h
      · exact List.mem_append_left _ (sb.subset h)
      · exact List.mem_append_right _ (sc.subset h))
    refine List.mem_filter.mpr ⟨h1, ?_⟩
    rw [Bool.not_eq_true', decide_eq_false (noT x hx)]
theorem bareNo {k : Kept} {t : Int} : t ∉ (without k t).threads := fun h => by
  have := (List.mem_filter.mp (show t ∈ leftOf k.threads [t] from h)).2
  simp at this
theorem dentsOnly {o : List Int} {t : Int} {k : Kept} {rows : List (List Int)} : placesN o t (without k t) rows [] = (List.range (o.length + 1)).filter fun p => fitsDents (o.take p) (o.drop p) t rows := by
  unfold placesN
  refine List.filter_congr fun p _ => ?_
  unfold okPlace okKept
  rw [noEyes, decide_eq_false bareNo]
  simp
theorem eyesOnly {o : List Int} {t : Int} {k : Kept} {es : List Led} : placesN o t (without k t) [] es = (List.range (o.length + 1)).filter fun p => fitsEyes (o.take p) (o.drop p) t es := by
  unfold placesN
  refine List.filter_congr fun p _ => ?_
  unfold okPlace okKept
  rw [noDents, decide_eq_false bareNo]
  simp
/-- the whole asks each alone -/
theorem eachAlone {o : List Int} {t : Int} {k : Kept} {rows : List (List Int)} {es : List Led} : (placesN o t k [] []).filter (fun p => decide (p ∈ placesN o t (without k t) rows []) && decide (p ∈ placesN o t (without k t) [] es)) = placesN o t k rows es := by
  rw [dentsOnly, eyesOnly]
  unfold placesN
  rw [List.filter_filter]
  refine List.filter_congr fun p hp => ?_
  have e1 : decide (p ∈ (List.range (o.length + 1)).filter fun p => fitsDents (o.take p) (o.drop p) t rows) = fitsDents (o.take p) (o.drop p) t rows := by
    rw [Bool.eq_iff_iff, decide_eq_true_iff, List.mem_filter]
    exact ⟨fun h => h.2, fun h => ⟨hp, h⟩⟩
  have e2 : decide (p ∈ (List.range (o.length + 1)).filter fun p => fitsEyes (o.take p) (o.drop p) t es) = fitsEyes (o.take p) (o.drop p) t es := by
    rw [Bool.eq_iff_iff, decide_eq_true_iff, List.mem_filter]
    exact ⟨fun h => h.2, fun h => ⟨hp, h⟩⟩
  rw [e1, e2]
  unfold okPlace
  rw [noDents, noEyes]
  cases okKept o t k p <;> cases fitsDents (o.take p) (o.drop p) t rows <;> cases fitsEyes (o.take p) (o.drop p) t es <;> rfl
end Wk
set_option Elab.async false
set_option linter.all false
set_option maxRecDepth 100000
set_option maxHeartbeats 4000000
/-! What changes a list on its way: the counter of the cells. -/
namespace Wk
open PySem PySem.Spec PyProof.Rows L2
section
variable {X : Cx} {a b c o e : Expr} {es : List Expr} {σ : L2.St} {H : Hp} {pos p apos : Pos} {D : Ends}
theorem wa_nil {Q : List V → Hp → Prop} (q : Q [] H) : WA X [] σ H Q := .of pa_nil q
theorem wa_cons {Q : List V → Hp → Prop} (h : WE X e σ H fun v H1 => WA X es σ H1 fun vs H2 => Q (v :: vs) H2) (hs : starEach (e :: es) X.env = (false, eval e X.env) :: starEach es X.env := by rfl) : WA X (e :: es) σ H Q := .of (pa_cons pe_we pa_wa hs) h
theorem we_bin {op : Operator} {r : R2} {Q : VK} (ho : OpR X (binaryOp op) r) (h : WE X a σ H fun x H1 => WE X b σ H1 fun y H2 => r x y H2 Q) : WE X (.BinOp a op b pos) σ H Q := .of (pe_op ho pe_we pe_we) h
theorem we_int {i : Int} {j : Nat} {Q : VK} (q : Q (.int i) H) : WE X (.Constant (.int i) j pos) σ H Q := .of pe_int q
theorem wt_cI {op : CmpOp} {g : Int → Int → Bool} {Q : Bool → Hp → Prop} (ho : OpR X (compareOp op) (rI0 fun i j => .bl (g i j))) (h : WE X a σ H fun x H1 => WE X b σ H1 fun y H2 => ∃ i j, x = .int i ∧ y = .int j ∧ Q (g i j) H2) (hm : behindInMarks op b = false := by exact nomark _) : WT X (.Compare a [op] [b] pos) σ H Q :=
  .of (pt_cmpR ho pe_we pe_we hm) (h.mono fun x H1 h1 => h1.mono fun y H2 ⟨i, j, e1, e2, q⟩ => ⟨i, j, e1, e2, g i j, rfl, q⟩)
theorem ws_parW {x y : Str} {px py pt pt2 : Pos} {kt k2 : Nat} (i j : Nat) (hN : X.N.Nodup) (ha : WA X [a, b] σ H fun vs H1 => ∃ u z, vs = [u, z] ∧ D.nx ((σ.set i (some u)).set j (some z)) H1) (hi : X.N[i]? = some x := by rfl) (hj : X.N[j]? = some y := by rfl) (hij : i ≠ j := by decide)
    (hx : X.env.scope.names.lookup x = some .local := by rfl) (hy : X.env.scope.names.lookup y = some .local := by rfl) (hw : swappedStores [.Tuple [.Name x px, .Name y py] kt pt] (.Tuple [a, b] k2 pt2) X.env = pure (some [x, y]) := by rfl)
    (hs : swapsWithSole [.Tuple [.Name x px, .Name y py] kt pt] (.Tuple [a, b] k2 pt2) pos.line X.env = pure false := by rfl) (hc : X.calm = true := by rfl) : WS X (.Assign [.Tuple [.Name x px, .Name y py] kt pt] (.Tuple [a, b] k2 pt2) pos) D σ H :=
  .of (ps_par hc hN hi hj hij hx hy pa_wa hw hs) ha
theorem ws_par3W {x y z : Str} {px py pz pt pt2 : Pos} {kt k2 : Nat} (i j l : Nat) (hN : X.N.Nodup) (ha : WA X [a, b, c] σ H fun vs H1 => ∃ u v w, vs = [u, v, w] ∧ D.nx (((σ.set i (some u)).set j (some v)).set l (some w)) H1) (hi : X.N[i]? = some x := by rfl) (hj : X.N[j]? = some y := by rfl) (hl : X.N[l]? = some z := by rfl) (hij : i ≠ j := by decide) (hil : i ≠ l := by decide) (hjl : j ≠ l := by decide)
    (hx : X.env.scope.names.lookup x = some .local := by rfl) (hy : X.env.scope.names.lookup y = some .local := by rfl) (hz : X.env.scope.names.lookup z = some .local := by rfl) (hw : swappedStores [.Tuple [.Name x px, .Name y py, .Name z pz] kt pt] (.Tuple [a, b, c] k2 pt2) X.env = pure (some [x, y, z]) := by rfl)
    (hs : swapsWithSole [.Tuple [.Name x px, .Name y py, .Name z pz] kt pt] (.Tuple [a, b, c] k2 pt2) pos.line X.env = pure false := by rfl) (hc : X.calm = true := by rfl) : WS X (.Assign [.Tuple [.Name x px, .Name y py, .Name z pz] kt pt] (.Tuple [a, b, c] k2 pt2) pos) D σ H :=
  .of (ps_par3 hc hN hi hj hl hij hil hjl hx hy hz pa_wa hw hs) ha
/-- a statement, a fact, what follows -/
theorem WS.next {st : Stmt} {N : L2.St → Hp → Prop} (h : WS X st D σ H) (k : ∀ τ G, D.nx τ G → N τ G) : WS X st { D with nx := N } σ H := ⟨fun pins s I => thn (h.run pins s I) fun f s' q => by
  cases f with
  | next =>
    obtain ⟨τ, G, J, m⟩ := q
    exact ⟨τ, G, J, k τ G m⟩
  | brk => exact q
  | cont => exact q
  | ret v => exact q⟩
theorem wss_mid {st : Stmt} {rest : List Stmt} (M : L2.St → Hp → Prop) (h : WS X st { D with nx := M } σ H) (k : ∀ τ G, M τ G → WSs X rest D τ G) : WSs X (st :: rest) D σ H := wss_cons (WS.next (D := { D with nx := M }) h k)
/-- xs.pop(e) -/
theorem we_popAt {t : Addr} {xs : List V} {Q : VK} (ht : H t = some (.lst xs)) (ho : ME X o σ H (Is (.ref t)))
    (ha : ∀ H1, Ex H H1 → WE X e σ H1 fun y H2 => ∃ (j : Nat) (u : V), y = .int (j : Int) ∧ j < 2 ^ 62 ∧ H2 t = some (.lst xs) ∧ xs[j]? = some u ∧ Q u (upd H2 t (.lst (xs.eraseIdx j))))
    (hbase : attributeBase o "pop" X.env (eval o X.env) = eval o X.env := by rfl)
    (hfew : ((backTo pos (starEach [e] X.env)).all (fun x => !x.1) && (backToKw pos (keywordEach [] X.env)).all (fun x => x.1.isSome) && decide ([e].length + ([] : List Keyword).length + (if ([] : List Keyword).isEmpty then 0 else 1) < 30)) = true := by rfl)
    (hline : (apos.endLine == pos.line) = true := by rfl) (hs : starEach [e] X.env = (false, eval e X.env) :: starEach [] X.env := by rfl) (hplain : (backTo pos (starEach [] X.env)).any (·.1) = false := by rfl) : WE X (.Call (.Attribute o "pop" apos) [e] [] pos) σ H Q :=
  .of (pe_bm PySem.F.plainAttrs_list PySem.F.slot_list_pop PySem.F.type_list_pop mt_popAt pe_we (pa_cons pe_we pa_nil hs) hbase hfew hline hs hplain) (ho.we fun x H1 x1 p => by
    have e1 : x = .ref t := p
    rw [e1]
    refine ⟨tyList (x1 _ _ ht), (ha H1 x1).mono fun y H2 ⟨j, u, ey, hj, h2, hu, q⟩ => ⟨t, xs, (j : Int), j, u, rfl, by rw [ey], h2, by omega, by omega, ?_, hu, q⟩⟩
    have hl : j < xs.length := (List.getElem?_eq_some_iff.mp hu).1
    have n0 : ¬ ((j : Int) < 0) := by omega
    unfold seqIndex?
    simp only [n0, if_false]
    have e2 : (decide ((0 : Int) ≤ (j : Int)) && decide ((j : Int) < (xs.length : Int))) = true := by
      rw [decide_eq_true (by omega : (0 : Int) ≤ (j : Int)), decide_eq_true (by omega : (j : Int) < (xs.length : Int))]
      rfl
    rw [if_pos e2]
    rfl)
end
/-! ### comprehensions that change something -/
section
variable {X : Cx} {iter elt cnd : Expr} {scope : Scope} {σ : L2.St} {H H1 : Hp} {pos px : Pos} {x : Str} {n : Nat} {Y : Nat → Pv}
theorem lcW {tt : TT} (i : Nat) (mi : MI X (.Name x px) iter σ H n Y) (x1 : Ex H H1) (D : Addr → Prop) (hD : ∀ b, D b → H b = none ∧ H1 b ≠ none) (P : Nat → List V → Hp → Prop) (small : n < sizeLine) (h0 : ∀ H2, Ex H1 H2 → P 0 [] H2)
    (hp : ∀ j ys G d xs, H1 d = none → P j ys G → P j ys (upd G d (.lst xs)))
    (turn : ∀ j ys v G G2, j < n → P j ys G → Ex G G2 → Y j v G2 → tt (σ.set i (some v)) G2 fun k G3 => if k = true then (inBlk X scope fun Z => WE Z elt (σ.set i (some v)) G3 fun u G4 => ExB D G G4 ∧ P (j + 1) (ys ++ [u]) G4) else ExB D G G3 ∧ P (j + 1) ys G3)
    (ttm : ∀ τ G (Q1 Q2 : Bool → Hp → Prop), tt τ G Q1 → (∀ b G', Q1 b G' → Q2 b G') → tt τ G Q2) (hN : X.N.Nodup) (ok : BlkOk X.N X.env.scope scope [(x, i)]) (hx : inBlk X scope fun Z => Loc Z.env.scope x) (hf : inBlk X scope fun Z => Z.fn x = true ∨ Z.env.scope.names.lookup x = some .local)
    {Q : VK} (q : ∀ a G ys, H1 a = none → ExB D H1 G → P n ys G → G a = some (.lst ys) → ys.length ≤ n → Q (.ref a) G) : tLc (WI X (.Name x px) iter) (bG X scope (.Name x px)) tt (bE X scope elt) [i] σ H1 Q := by
  refine mi H1 x1 _ fun J H2 G0 x2 g hold W A hA => ?_
  have nA : H1 A = none := Evl.fresh_back x2 hA
  have nH : H A = none := Evl.fresh_back x1 nA
  have dA : ¬ D A := fun z => (hD A z).2 nA
  have off : ∀ b, (D b ∨ b = A) → H b = none ∧ (H1 b ≠ none ∨ H2 b = none) := fun b d => d.elim (fun z => ⟨(hD b z).1, .inl (hD b z).2⟩) fun z => by rw [z]; exact ⟨nH, .inr hA⟩
  refine ⟨fun j m G => m = n - j ∧ j ≤ n ∧ G0 G ∧ ExB D H2 G ∧ ∃ ys, G A = some (.lst ys) ∧ ys.length ≤ j ∧ P j ys G,
    ⟨n, by omega, Nat.zero_le _, hold (fun b => D b ∨ b = A) H2 _ off (ExB.up (.inr rfl)) g, ExB.of (exNew hA), [], upd_same, Nat.le_refl _, hp _ _ _ _ _ nA (h0 H2 x2)⟩, ?_⟩
  rintro j m G ⟨rfl, hj, hG, b3, ys, hys, ly, hP⟩
  by_cases hlt : j < n
  · refine .inr ⟨W.go j G hG hlt, fun G6 => G0 G6 ∧ ExB D H2 G6 ∧ ∃ ys, G6 A = some (.lst ys) ∧ ys.length ≤ j + 1 ∧ P (j + 1) ys G6,
      fun G6 ⟨g6, b6, z⟩ => ⟨n - (j + 1), by omega, rfl, hlt, g6, b6, z⟩, fun v G2 y => ?_⟩
    obtain ⟨x4, hy⟩ := W.yld j G v G2 hG hlt y
    intro s0 H0 C cl fp
    have mg := mg_name (X := X.blk s0 H0 scope (compEnvC scope cl C X.env) fp) (pos := px) (v := v) (σ := σ.set i none) (H := G2) i hN (ok.ix _ List.mem_cons_self) (hx s0 H0 C cl fp) (hf s0 H0 C cl fp)
    rw [set2] at mg
    refine mg _ ⟨set2, ?_⟩
    have keep : ∀ {G4 G6 : Hp}, ExB D G G4 → ExB (· = A) G4 G6 → G0 G6 ∧ ExB D H2 G6 := fun {G4 G6} u1 u2 => ⟨hold (fun b => D b ∨ b = A) G G6 off ((u1.sub fun b d => .inl d).trans (u2.sub fun b d => .inr d)) hG, fun b o nd e => by
      have hb : b ≠ A := fun z => by
        rw [z, hA] at e
        cases e
      exact u2 b o hb (u1 b o nd (b3 b o nd e))⟩
    refine ttm _ _ _ _ (turn j ys v G G2 hlt hP x4 hy) fun k G3 hk => ?_
    cases k with
    | true =>
      have hk' := hk
      simp only [if_true] at hk' ⊢
      intro s1 H01 C1 cl1 fp1
      refine (hk' s1 H01 C1 cl1 fp1).mono fun u G4 ⟨b4, p4⟩ => ?_
      have h4 : G4 A = some (.lst ys) := b4 _ _ dA hys
      obtain ⟨k1, k2⟩ := keep b4 (ExB.up (o := .lst (ys ++ [u])) rfl)
      exact ⟨ys, h4, by omega, k1, k2, ys ++ [u], upd_same, by rw [List.length_append]; show ys.length + 1 ≤ j + 1; omega, hp _ _ _ _ _ nA p4⟩
    | false =>
      have hk' := hk
      simp only [Bool.false_eq_true, if_false] at hk' ⊢
      obtain ⟨b4, p4⟩ := hk'
      obtain ⟨k1, k2⟩ := keep b4 (ExB.of (exr _))
      exact ⟨k1, k2, ys, b4 _ _ dA hys, by omega, p4⟩
  · have e : j = n := by omega
    subst e
    refine .inl ⟨W.stop _ G hG (Nat.le_refl _), q A G ys nA ((ExB.of x2).trans b3) hP hys ly⟩
/-- [elt for x in iter], elt changing something -/
theorem we_lcE0 (i : Nat) (mi : MI X (.Name x px) iter σ H n Y) (x1 : Ex H H1) (D : Addr → Prop) (hD : ∀ b, D b → H b = none ∧ H1 b ≠ none) (P : Nat → List V → Hp → Prop) (small : n < sizeLine) (h0 : ∀ H2, Ex H1 H2 → P 0 [] H2)
    (hp : ∀ j ys G d xs, H1 d = none → P j ys G → P j ys (upd G d (.lst xs)))
    (turn : ∀ j ys v G G2, j < n → P j ys G → Ex G G2 → Y j v G2 → inBlk X scope fun Z => WE Z elt (σ.set i (some v)) G2 fun u G4 => ExB D G G4 ∧ P (j + 1) (ys ++ [u]) G4)
    {Q : VK} (q : ∀ a G ys, H1 a = none → ExB D H1 G → P n ys G → G a = some (.lst ys) → ys.length ≤ n → Q (.ref a) G) (hN : X.N.Nodup) (ok : BlkOk X.N X.env.scope scope [(x, i)])
    (hx : inBlk X scope fun Z => Loc Z.env.scope x := by intro _ _ _ _ _; first | exact Or.inl rfl | exact Or.inr rfl) (hf : inBlk X scope fun Z => Z.fn x = true ∨ Z.env.scope.names.lookup x = some .local := by intro _ _ _ _ _; first | exact Or.inl rfl | exact Or.inr rfl)
    (hc : X.calm = true := by rfl) (hs : ∀ x, foldedSetIterable iter X.env x = pure x := by intro _; rfl) : WE X (.ListComp elt [⟨.Name x px, iter, [], 0⟩] scope pos) σ H1 Q :=
  .of (pe_lc (own := [(x, i)]) hc hN pi_wi ok pg_bG (fun _ _ _ _ _ => pts_nil) pe_bE hs) (lcW (tt := fun τ G Q => Q true G) i mi x1 D hD P small h0 hp (fun j ys v G G2 hj hP x hy => by
    show if true = true then _ else _
    rw [if_pos rfl]
    exact turn j ys v G G2 hj hP x hy) (fun τ G Q1 Q2 h k => k _ _ h) hN ok hx hf q)
/-- [elt for x in iter if cnd], cnd changing something -/
theorem we_lcE1 (i : Nat) (mi : MI X (.Name x px) iter σ H n Y) (x1 : Ex H H1) (D : Addr → Prop) (hD : ∀ b, D b → H b = none ∧ H1 b ≠ none) (P : Nat → List V → Hp → Prop) (small : n < sizeLine) (h0 : ∀ H2, Ex H1 H2 → P 0 [] H2)
    (hp : ∀ j ys G d xs, H1 d = none → P j ys G → P j ys (upd G d (.lst xs)))
    (turn : ∀ j ys v G G2, j < n → P j ys G → Ex G G2 → Y j v G2 → inBlk X scope fun Z => WT Z cnd (σ.set i (some v)) G2 fun k G3 => if k = true then (inBlk X scope fun Z => WE Z elt (σ.set i (some v)) G3 fun u G4 => ExB D G G4 ∧ P (j + 1) (ys ++ [u]) G4) else ExB D G G3 ∧ P (j + 1) ys G3)
    {Q : VK} (q : ∀ a G ys, H1 a = none → ExB D H1 G → P n ys G → G a = some (.lst ys) → ys.length ≤ n → Q (.ref a) G) (hN : X.N.Nodup) (ok : BlkOk X.N X.env.scope scope [(x, i)])
    (hx : inBlk X scope fun Z => Loc Z.env.scope x := by intro _ _ _ _ _; first | exact Or.inl rfl | exact Or.inr rfl) (hf : inBlk X scope fun Z => Z.fn x = true ∨ Z.env.scope.names.lookup x = some .local := by intro _ _ _ _ _; first | exact Or.inl rfl | exact Or.inr rfl)
    (hc : X.calm = true := by rfl) (hs : ∀ x, foldedSetIterable iter X.env x = pure x := by intro _; rfl) : WE X (.ListComp elt [⟨.Name x px, iter, [cnd], 0⟩] scope pos) σ H1 Q :=
  .of (pe_lc (own := [(x, i)]) hc hN pi_wi ok pg_bG (fun s H C cl fp => pts_one (pt_bT s H C cl fp)) pe_bE hs) (lcW i mi x1 D hD P small h0 hp turn (fun τ G Q1 Q2 h k s H0 C cl fp => (h s H0 C cl fp).mono k) hN ok hx hf q)
end
/-! ### the counter -/
structure LS (pC pS : Addr) (cells : List Int) (k : Nat) (H : Hp) : Prop where
  hc : H pC = some (.lst (cells.map V.int))
  hs : H pS = some (.lst [.int (k : Int)])
  ne : pC ≠ pS
  few : cells.length ≤ 63
section
variable {pC pS : Addr} {cells : List Int} {k k' : Nat} {H H' : Hp}
theorem LS.ex (h : LS pC pS cells k H) (x : Ex H H') : LS pC pS cells k H' := ⟨x _ _ h.hc, x _ _ h.hs, h.ne, h.few⟩
theorem LS.step (h : LS pC pS cells k H) (x : ExB (· = pS) H H') (e : H' pS = some (.lst [.int (k' : Int)])) : LS pC pS cells k' H' := ⟨x _ _ h.ne h.hc, e, h.ne, h.few⟩
theorem tkLst {D : Addr → Prop} (x : ExB D H H') (h : ∀ b, D b → ∃ xs, H b = some (.lst xs)) : Tk H H' := fun b xs r => by
  rcases r with r | ⟨ob, r⟩
  · exact .inl (x b _ (fun d => by
      obtain ⟨ys, hy⟩ := h b d
      rw [r] at hy
      cases hy) r)
  · exact .inr ⟨ob, x b _ (fun d => by
      obtain ⟨ys, hy⟩ := h b d
      rw [r] at hy
      cases hy) r⟩
theorem LS.tk (h : LS pC pS cells k H) (x : ExB (· = pS) H H') : Tk H H' := tkLst x fun b e => ⟨[.int (k : Int)], (show b = pS from e) ▸ h.hs⟩
/-- a promise of one that counts c cells at most -/
def SpL {δ : Type} (c : Nat) (args : δ → List Pv) (ok : δ → Prop) (res : δ → Pv) : Sp := fun vs H Q _ => ∃ (d : δ) (pC pS : Addr) (cells : List Int) (k : Nat) (us : List V), ok d ∧ vs = .ref pC :: .ref pS :: us ∧ Paired (fun v P => P v H) us (args d) ∧ LS pC pS cells k H ∧ k + c ≤ 1000000 ∧
  ∀ v H' k', ExB (· = pS) H H' → LS pC pS cells k' H' → k ≤ k' → k' ≤ k + c → res d v H' → Q v H'
theorem we_callL {X : Cx} {e1 e2 : Expr} {es : List Expr} {σ : L2.St} {pos p : Pos} {δ : Type} {c n : Nat} {args : δ → List Pv} {ok : δ → Prop} {res : δ → Pv} {ps : List Str} {x : Str} {Q : VK} (d : δ) (F : Has X.prog X.w X.K X.mg X.base CX0 x n ps (SpL c args ok res)) (hr : Room n X.A) (ho : ok d) (L : LS pC pS cells k H) (hk : k + c ≤ 1000000)
    (h1 : ME X e1 σ H (Is (.ref pC))) (h2 : ME X e2 σ H (Is (.ref pS))) (ha : MA X es σ H (args d)) (q : ∀ v H' k', ExB (· = pS) H H' → LS pC pS cells k' H' → k ≤ k' → k' ≤ k + c → res d v H' → Q v H') (hg : Gl X x := by rfl) (hdb : (x == ("__debug__" : Str)) = false := by decide)
    (he : starEach (e1 :: e2 :: es) X.env = (false, eval e1 X.env) :: starEach (e2 :: es) X.env := by rfl) (he2 : starEach (e2 :: es) X.env = (false, eval e2 X.env) :: starEach es X.env := by rfl) (hpl : (backTo pos (starEach (e2 :: es) X.env)).any (·.1) = false := by rfl) : WE X (.Call (.Name x p) (e1 :: e2 :: es) [] pos) σ H Q :=
  we_call F hr pass0 (ma_cons h1 (ma_cons h2 ha he2) he H (exr H) _ fun vs H2 x2 ps => by
    cases ps with
    | cons r1 t =>
      cases t with
      | cons r2 t =>
        have e1 : _ = V.ref pC := r1
        have e2 : _ = V.ref pS := r2
        subst e1 e2
        exact ⟨d, pC, pS, cells, k, _, ho, rfl, t, L.ex x2, hk, fun v H' k' b l g1 g2 r => q v H' k' ((ExB.of x2).trans b) l g1 g2 r⟩) hg hdb he hpl
section
variable {P : Program} {w : World} {K : PySem.W.Frag} {mg : Str → Option Value} {base : Heap}
theorem Has.mkL {x : Str} {st : Stmt} {N ps : List Str} {n c : Nat} {δ : Type} {args : δ → List Pv} {ok : δ → Prop} {res : δ → Pv} (D : Df K mg x st) (S : FnScope N ps (defScope st)) (bn : Bnd x st ps) (len : ∀ d, (args d).length + 2 = ps.length)
    (body : ∀ (f : Addr) (cdv : Value) (A : Around) (outer : List Env) (s : Shared) (H : Hp) (us : List V) (Q : VK) (E : XK) (d : δ) (pC pS : Addr) (cells : List Int) (k : Nat), Room n (A.deeper (envOfC x (defScope st) s.heap.objs.size f cdv)) → ok d → Paired (fun v P => P v H) us (args d) → LS pC pS cells k H → k + c ≤ 1000000 →
      (∀ v H' k', ExB (· = pS) H H' → LS pC pS cells k' H' → k ≤ k' → k' ≤ k + c → res d v H' → Q v H') →
      WSs (cx0 P w K mg base N x st f cdv A outer s H E) (defBody st) { nx := fun _ H' => Q .non H', rt := Q } (start N (.ref pC :: .ref pS :: us)) H) : Has P w K mg base CX0 x (n + 1) ps (SpL c args ok res) :=
  .mk' D S bn (fun vs H Q E ⟨d, _, _, _, _, us, _, e, h, _⟩ => by
    rw [e, List.length_cons, List.length_cons, pLen h, ← len d]) fun f cdv A outer s H vs Q E hr ⟨d, pC, pS, cells, k, us, h1, h2, h3, h4, h5, h6⟩ => by
    subst h2
    exact body f cdv A outer s H us Q E d pC pS cells k hr h1 h3 h4 h5 h6
end
end
end Wk
set_option Elab.async false
set_option linter.all false
set_option maxRecDepth 100000
set_option maxHeartbeats 4000000
/-! The law's helpers: _law_cell. -/
namespace Wk
open PySem PySem.Spec PyProof.Rows L2
section
variable {P : Program} {w : World} {K : PySem.W.Frag} {mg : Str → Option Value} {base : Heap}
/-- a cell's value -/
def CellV : Pv := fun v _ => ∃ n : Nat, v = .int (n : Int) ∧ n < 2 ^ 31
abbrev spCellW : Sp := SpL (δ := Unit) 1 (fun _ => []) (fun _ => True) fun _ => CellV
abbrev nCell : List Str := ["_law_cells", "_law_spot", "_law_k", "_law_base", "_law_own", "_law_turn"]
theorem scCell : FnScope nCell ["_law_cells", "_law_spot"] (defScope sLawCell) := ⟨rfl, rfl, rfl, by decide +kernel, rfl, by decide +kernel, by decide +kernel⟩
theorem cellV {i : Int} (h0 : 0 ≤ i) (h1 : i < 2147483648) {H : Hp} : CellV (.int i) H := ⟨i.toNat, by rw [Int.toNat_of_nonneg h0], by omega⟩
theorem hCell (B : Bl mg) (D : Df K mg "_law_cell" sLawCell) : Has P w K mg base CX0 "_law_cell" 1 ["_law_cells", "_law_spot"] spCellW :=
  .mkL D scCell (fun _ _ _ _ _ _ us hl => match us, hl with | [_, _], _ => rfl) (fun _ => rfl) fun f cdv A outer s H us Q E d pC pS cells k hr ho ha L hk q => by
    cases ha
    have few := L.few
    -- spot[0] = spot[0] + 1
    refine wss_cons (ws_lset (j := 0) (P := Is (.int ((k + 1 : Nat) : Int))) L.hs (me_var 1) me_int ((me_I0 op_add (me_ixLV (i := ((0 : Nat) : Int)) (me_var 1) me_int L.hs (by rw [atNat]; rfl)) me_int).imp fun v H' x h => h) (by show 0 < 1; decide) fun v H1 x1 e => ?_)
    have e' : v = .int ((k + 1 : Nat) : Int) := e
    subst e'
    have L2 : LS pC pS cells (k + 1) (upd H1 pS (.lst ([V.int (k : Int)].set 0 (.int ((k + 1 : Nat) : Int))))) := ⟨by rw [upd_ne L.ne]; exact x1 _ _ L.hc, upd_same, L.ne, L.few⟩
    have b2 : ExB (· = pS) H (upd H1 pS (.lst ([V.int (k : Int)].set 0 (.int ((k + 1 : Nat) : Int))))) := (ExB.of x1).trans (ExB.up rfl)
    generalize upd H1 pS (.lst ([V.int (k : Int)].set 0 (.int ((k + 1 : Nat) : Int)))) = H2 at L2 b2
    have q' : ∀ v H', Ex H2 H' → CellV v H' → Q v H' := fun v H' x r => q v H' (k + 1) (b2.trans (ExB.of x)) (L2.ex x) (by omega) (by omega) r
    clear q
    -- k = spot[0]
    refine wss_cons (ws_set 2 scCell.nd (ME.we (me_ixLV (i := ((0 : Nat) : Int)) (v := .int ((k + 1 : Nat) : Int)) (me_var 1) me_int L2.hs (by rw [atNat]; rfl)) fun v H3 x3 e => ?_))
    have e' : v = .int ((k + 1 : Nat) : Int) := e
    subst e'
    obtain ⟨m, hm⟩ : ∃ m, k + 1 = m := ⟨_, rfl⟩
    have mb : m ≤ 1000000 := by omega
    rw [hm] at L2 ⊢
    have L3 := L2.ex x3
    -- base = ..
    refine wss_cons (ws_set 3 scCell.nd (ME.we (me_I0 op_add (me_I op_mul (me_I op_mul me_int (me_var 2) (.inl ⟨by decide, by decide⟩)) (me_var 2) (.inr ⟨by omega, by omega⟩)) (me_I op_mul me_int (me_var 2) (.inl ⟨by decide, by decide⟩))) fun v H4 x4 e => ?_))
    have e' : v = .int (31 * (m : Int) * (m : Int) + 7919 * (m : Int)) := e
    subst e'
    have L4 := L3.ex x4
    have x24 := x3.trans x4
    generalize 31 * (m : Int) * (m : Int) + 7919 * (m : Int) = bs
    have hlen : ∀ {H' : Hp}, LS pC pS cells m H' → Li RI cells (.ref pC) H' := fun l => liI.mpr ⟨pC, rfl, l.hc⟩
    have ixm : 0 < cells.length → ∃ d, atI cells ((m : Int) % (cells.length : Int)) = some d := fun h => by
      have e : ((m : Int) % (cells.length : Int)) = ((m % cells.length : Nat) : Int) := by push_cast; rfl
      rw [e, atNat]
      exact ⟨_, List.getElem?_eq_getElem (Nat.mod_lt _ h)⟩
    -- if ..
    refine wss_mid (fun τ G => ∃ g4 g5, τ = [some (.ref pC), some (.ref pS), some (.int (m : Int)), some (.int bs), g4, g5] ∧ Ex H2 G) ?_ fun τ G ⟨g4, g5, e, xg⟩ => ?_
    · by_cases hc : 0 < cells.length
      · obtain ⟨d, hd⟩ := ixm hc
        refine ws_if (MT.wt (k := decide ((10 : Int) ^ (18 : Int).toNat ≤ d) && decide ((m : Int) / (cells.length : Int) < 60)) (MT.is (MW.mt (mw_and (k := true) (MT.is (mt_cI op_gt (me_lenL B (me_is (me_var 0) (hlen L4))) me_int) (decide_eq_true (by omega))) fun _ =>
          mw_and (mt_cI op_ge (me_ixL (R := RI) (me_is (me_var 0) (hlen L4)) (me_I op_mod (me_var 2) (me_lenL B (me_is (me_var 0) (hlen L4))) (by omega)) hd) (me_I op_pow me_int me_int ⟨by decide, by decide, by decide⟩)) fun _ => mw_and1 (mt_cI op_lt (me_I op_fdiv (me_var 2) (me_lenL B (me_is (me_var 0) (hlen L4))) ⟨by omega, by omega⟩) me_int))) ?_) fun H5 x5 => ?_)
        · rw [Bool.true_and]
        · have L5 := L4.ex x5
          cases hb : decide ((10 : Int) ^ (18 : Int).toNat ≤ d) && decide ((m : Int) / (cells.length : Int) < 60) with
          | false => exact iteF (wss_nil ⟨_, _, rfl, x24.trans x5⟩)
          | true =>
            refine iteT ?_
            -- own = cells[k % len(cells)]
            refine wss_cons (ws_set 4 scCell.nd (ME.we (me_ixL (R := RI) (me_is (me_var 0) (hlen L5)) (me_I op_mod (me_var 2) (me_lenL B (me_is (me_var 0) (hlen L5))) (by omega)) hd) fun v H6 x6 e => ?_))
            have e' : v = .int d := e
            subst e'
            have L6 := L5.ex x6
            have mq : (m : Int) / (cells.length : Int) ≤ (m : Int) := Int.ediv_le_self _ (by omega)
            have mq0 : 0 ≤ (m : Int) / (cells.length : Int) := Int.ediv_nonneg (by omega) (by omega)
            -- for turn in range(k // len(cells))
            refine wss_cons (ws_for (fun _ => False) (fun i σ H7 => ∃ (o : Int) (g : Option V), σ = [some (.ref pC), some (.ref pS), some (.int (m : Int)), some (.int bs), some (.int o), g] ∧ Ex H2 H7)
              (mi_range (H := H6) B.range (me_I op_fdiv (me_var 2) (me_lenL B (me_is (me_var 0) (hlen L6))) ⟨by omega, by omega⟩) (by omega) (by omega)) (exr H6) (fun b e => e.elim) PassesOwn.never rfl
              (fun H7 x7 => ⟨d, none, rfl, x24.trans (x5.trans (x6.trans x7))⟩) (fun i u σ H7 H8 hi ⟨o, g, e, x7⟩ x8 hu => ?_) fun σ H7 ⟨o, g, e, x7⟩ => ?_)
            · subst e
              subst hu
              refine wg_name 5 scCell.nd (wss_one (ws_set 4 scCell.nd (ME.we (me_I op_fdiv (me_var 4) me_int ⟨by decide, by decide⟩) fun v H9 x9 e => ?_)))
              have e' : v = .int (o / 306783379) := e
              subst e'
              exact ⟨⟨_, _, rfl, x7.trans (x8.trans x9)⟩, ExB.of (x8.trans x9)⟩
            · subst e
              -- if own > 0
              refine wss_one (ws_if (MT.wt (mt_cI op_gt (me_var 4) me_int) fun H8 x8 => ?_))
              by_cases h0 : o > 0
              · rw [decide_eq_true h0]
                refine iteT (wss_one (ws_ret (ME.we (me_I op_mod (me_var 4) me_int (by decide)) fun v H9 x9 e => ?_)))
                have e' : v = .int (o % 306783379) := e
                rw [e']
                exact q' _ H9 (x7.trans (x8.trans x9)) (cellV (Int.emod_nonneg _ (by decide)) (Int.lt_trans (Int.emod_lt_of_pos _ (by decide)) (by decide)))
              · rw [decide_eq_false h0]
                exact iteF (wss_nil ⟨_, _, rfl, x7.trans x8⟩)
      · refine ws_if (MT.wt (k := false) (MT.is (MW.mt (mw_and (k := false) (j := false) (MT.is (mt_cI op_gt (me_lenL B (me_is (me_var 0) (hlen L4))) me_int) (decide_eq_false (by omega))) fun e => nomatch e)) rfl) fun H5 x5 => iteF (wss_nil ⟨_, _, rfl, x24.trans x5⟩))
    · subst e
      have Lg := L2.ex xg
      -- if len(cells) > 0
      refine wss_mid (fun τ G2 => ∃ b2 : Int, τ = [some (.ref pC), some (.ref pS), some (.int (m : Int)), some (.int b2), g4, g5] ∧ Ex H2 G2) ?_ fun τ G2 ⟨b2, e, xg2⟩ => ?_
      · refine ws_if (MT.wt (mt_cI op_gt (me_lenL B (me_is (me_var 0) (hlen Lg))) me_int) fun H5 x5 => ?_)
        by_cases hc : 0 < cells.length
        · rw [decide_eq_true (by omega)]
          obtain ⟨d, hd⟩ := ixm hc
          have L5 := Lg.ex x5
          have m0 : 0 ≤ d % 2147483629 := Int.emod_nonneg _ (by decide)
          have m1 : d % 2147483629 < 2147483629 := Int.emod_lt_of_pos _ (by decide)
          refine iteT (wss_one (ws_set 3 scCell.nd (ME.we (me_I0 op_add (me_var 3) (me_I op_mul (me_I op_mod (me_ixL (R := RI) (me_is (me_var 0) (hlen L5)) (me_I op_mod (me_var 2) (me_lenL B (me_is (me_var 0) (hlen L5))) (by omega)) hd) me_int (by decide))
            (me_I0 op_add me_int (me_I op_fdiv (me_var 2) (me_lenL B (me_is (me_var 0) (hlen L5))) ⟨by omega, by omega⟩)) (.inl ⟨by omega, by omega⟩))) fun v H6 x6 e => ?_)))
          have e' : v = .int (bs + d % 2147483629 * (1 + (m : Int) / (cells.length : Int))) := e
          subst e'
          exact ⟨_, rfl, xg.trans (x5.trans x6)⟩
        · rw [decide_eq_false (by omega)]
          exact iteF (wss_nil ⟨_, rfl, xg.trans x5⟩)
      · subst e
        have p0 : 0 ≤ b2 % 2147483647 := Int.emod_nonneg _ (by decide)
        have p1 : b2 % 2147483647 < 2147483647 := Int.emod_lt_of_pos _ (by decide)
        -- return ..
        refine wss_one (ws_ret (ME.we (me_I op_fdiv (me_I op_mod (me_I op_pow (me_I op_mod (me_var 3) me_int (by decide)) me_int ⟨by decide, by decide, by omega⟩) me_int (by decide)) me_int ⟨by decide, by decide⟩) fun v H9 x9 e => ?_))
        have e' : v = .int ((b2 % 2147483647) ^ (5 : Int).toNat % 2147483647 / 7) := e
        rw [e']
        have r0 : 0 ≤ (b2 % 2147483647) ^ (5 : Int).toNat % 2147483647 := Int.emod_nonneg _ (by decide)
        have r1 : (b2 % 2147483647) ^ (5 : Int).toNat % 2147483647 < 2147483647 := Int.emod_lt_of_pos _ (by decide)
        exact q' _ H9 (xg2.trans x9) (cellV (by omega) (by omega))
end
end Wk
set_option Elab.async false
set_option linter.all false
set_option maxRecDepth 100000
set_option maxHeartbeats 4000000
/-! The law's helpers: _law_order, _law_turned. -/
namespace Wk
open PySem PySem.Spec PyProof.Rows L2
def offS (p : Addr) (H : Hp) : Hp := fun b => if b = p then none else H b
theorem offS_same {p : Addr} {H : Hp} : offS p H p = none := if_pos rfl
theorem offS_ne {p b : Addr} {H : Hp} (h : b ≠ p) : offS p H b = H b := if_neg h
theorem offS_ex {p : Addr} {H : Hp} : Ex (offS p H) H := fun b o e => by
  by_cases h : b = p
  · rw [h, offS_same] at e
    cases e
  · rw [offS_ne h] at e
    exact e
theorem exNo {H : Hp} : Ex noHp H := fun b o e => nomatch e
section
variable {pC pS : Addr} {cells : List Int} {k : Nat} {H H' : Hp}
theorem LS.toff (L : LS pC pS cells k H) : Tk H (offS pS H) := fun b xs r => by
  have ne : ∀ {o : HO}, H b = some o → (∀ ys, o ≠ .lst ys) → b ≠ pS := fun h n z => by
    rw [z, L.hs] at h
    cases h
    exact n _ rfl
  rcases r with r | ⟨ob, r⟩
  · exact .inl (by rw [offS_ne (ne r fun _ z => nomatch z)]; exact r)
  · exact .inr ⟨ob, by rw [offS_ne (ne r fun _ z => nomatch z)]; exact r⟩
theorem LS.off (L : LS pC pS cells k H) : ∀ b, b = pS → offS pS H b = none ∧ H b ≠ none := fun b e => by
  rw [e]
  exact ⟨offS_same, by rw [L.hs]; exact fun z => nomatch z⟩
end
section
variable {X : Cx} {a e : Expr} {σ : L2.St} {H : Hp} {pos p : Pos}
theorem we_tupW {Q : VK} (B : Bl X.mg) (h : WE X a σ H fun v H1 => ∃ (c : Addr) (xs : List V), v = .ref c ∧ H1 c = some (.lst xs) ∧ ∀ l, H1 l = none → Q (.ref l) (upd H1 l (.tup xs))) (hg : Gl X "tuple" := by rfl) (hs : starEach [a] X.env = (false, eval a X.env) :: starEach [] X.env := by rfl) : WE X (.Call (.Name "tuple" p) [a] [] pos) σ H Q :=
  .of (pe_callTy call_tuple_of hg B.tuple btTuple pa_wa (by decide) (by decide) hs rfl) (wa_one (h.mono fun v H1 ⟨c, xs, e, h1, q⟩ => ⟨c, xs, by rw [e], .inl ⟨SqL.of h1, q⟩⟩) hs)
theorem we_listRg {j : Int} {q pl : Pos} {Q : VK} (B : Bl X.mg) (hc : X.calm = true) (ha : ME X a σ H (Is (.int j))) (h0 : 0 ≤ j) (h1 : j ≤ 16777216) (k : ∀ p H1, H p = none → Ex H H1 → H1 p = some (.lst (rgV 0 j)) → Q (.ref p) H1) (hg : Gl X "list" := by rfl) (hg2 : Gl X "range" := by rfl)
    (na : starEach [a] X.env = (false, eval a X.env) :: starEach [] X.env := by rfl) (nb : starEach [.Call (.Name "range" q) [a] [] p] X.env = (false, eval (.Call (.Name "range" q) [a] [] p) X.env) :: starEach [] X.env := by rfl) : WE X (.Call (.Name "list" pl) [.Call (.Name "range" q) [a] [] p] [] pos) σ H Q :=
  .of (pe_listRg hc hg B.list (prg_1 hg2 B.range pe_we na) nb) (ha.we fun v H1 x1 e => ⟨j, e, RgOk.of_le (by omega) h1 (by omega) h0, fun c nc => k c _ (Evl.fresh_back x1 nc) (x1.trans (exNew nc)) upd_same⟩)
end
section
variable {P : Program} {w : World} {K : PySem.W.Frag} {mg : Str → Option Value} {base : Heap}
abbrev GCell (P : Program) (w : World) (K : PySem.W.Frag) (mg : Str → Option Value) (base : Heap) : Prop := Has P w K mg base CX0 "_law_cell" 1 ["_law_cells", "_law_spot"] spCellW
/-! ### _law_order -/
theorem eraseMap {α β : Type} (f : α → β) : ∀ (l : List α) (i : Nat), (l.map f).eraseIdx i = (l.eraseIdx i).map f
  | [], i => by simp
  | a :: l, 0 => rfl
  | a :: l, i + 1 => by
    show f a :: (l.map f).eraseIdx i = f a :: (l.eraseIdx i).map f
    rw [eraseMap f l i]
theorem erasePerm {α : Type} : ∀ (l : List α) (i : Nat) (h : i < l.length), (l[i] :: l.eraseIdx i).Perm l
  | a :: l, 0, _ => .refl _
  | a :: l, i + 1, h => by
    show (l[i]'(Nat.lt_of_succ_lt_succ h) :: a :: l.eraseIdx i).Perm (a :: l)
    exact (List.Perm.swap _ _ _).trans (.cons _ (erasePerm l i _))
def all100 : List Int := (List.range 100).map fun i => (0 : Int) + (i : Nat)
theorem all100V : rgV 0 100 = all100.map V.int := by
  unfold rgV all100
  rw [List.map_map]
  rfl
theorem all100Nd : all100.Nodup := by decide +kernel
theorem all100In : ∀ n ∈ all100, 0 ≤ n ∧ n ≤ 99 := by decide +kernel
def OrdV (m : Nat) : Pv := fun v H => ∃ o : List Int, Tu RI o v H ∧ o.length = m ∧ GoodO o
abbrev spOrd : Sp := SpL (δ := Nat) 7 (fun m => [Is (.int (m : Int))]) (fun m => m ≤ 7) OrdV
abbrev nOrd : List Str := ["_law_cells", "_law_spot", "_law_many", "_law_left", "_law_k"]
theorem scOrd : FnScope nOrd ["_law_cells", "_law_spot", "_law_many"] (defScope sLawOrder) := ⟨rfl, rfl, rfl, by decide +kernel, rfl, by decide +kernel, by decide +kernel⟩
theorem hOrd (B : Bl mg) (D : Df K mg "_law_order" sLawOrder) (GC : GCell P w K mg base) : Has P w K mg base CX0 "_law_order" 2 ["_law_cells", "_law_spot", "_law_many"] spOrd :=
  .mkL D scOrd (fun _ _ _ _ _ _ us hl => match us, hl with | [_, _, _], _ => rfl) (fun _ => rfl) fun f cdv A outer s H us Q E d pC pS cells k hr ho ha L hk q => by
    obtain ⟨v, rfl, hv⟩ := p1 ha
    have e' : v = .int (d : Int) := hv
    subst e'
    -- left = list(range(100))
    refine wss_cons (ws_set 3 scOrd.nd (we_listRg (j := 100) B rfl me_int (by decide) (by decide) fun pL H1 nL x1 hL => ?_))
    rw [all100V] at hL
    have L1 := L.ex x1
    have lS : pL ≠ pS := fun z => by
      rw [z, L.hs] at nL
      cases nL
    have lC : pL ≠ pC := fun z => by
      rw [z, L.hc] at nL
      cases nL
    -- return tuple([..])
    refine wss_one (ws_ret (we_tupW B (we_lcE0 (n := d) (H := noHp) 4 ((mi_range B.range (me_var 2) (by omega) (by omega)).conv (by omega) fun i v H _ h => h) exNo (fun b => b = pS ∨ b = pL) (fun b e => ⟨rfl, by
        rcases e with e | e
        · rw [e, L1.hs]
          exact fun z => nomatch z
        · rw [e, hL]
          exact fun z => nomatch z⟩)
      (fun j ys G => ∃ (k' : Nat) (got rest : List Int), LS pC pS cells k' G ∧ k ≤ k' ∧ k' ≤ k + j ∧ G pL = some (.lst (rest.map V.int)) ∧ ys = got.map V.int ∧ got.length = j ∧ (got ++ rest).Perm all100)
      (small1000 (by omega)) (fun H2 x2 => ⟨k, [], all100, L1.ex x2, Nat.le_refl _, Nat.le_refl _, x2 _ _ hL, rfl, rfl, .refl _⟩) (fun j ys G b xs nb ⟨k', got, rest, l, g1, g2, g3, g4, g5, g6⟩ => ?_)
      (fun j ys v G G2 hj ⟨k', got, rest, l, g1, g2, g3, g4, g5, g6⟩ x2 hy => ?_) (fun a G ys na b ⟨k', got, rest, l, g1, g2, g3, g4, g5, g6⟩ hga _ => ⟨a, ys, rfl, hga, fun t nt => ?_⟩) scOrd.nd (blkOk_by (N := nOrd) (sc := defScope sLawOrder) (by decide +kernel)))))
    · have ne : ∀ {c o}, H1 c = some o → c ≠ b := fun h z => by
        rw [z, nb] at h
        cases h
      exact ⟨k', got, rest, ⟨by rw [upd_ne (ne L1.hc)]; exact l.hc, by rw [upd_ne (ne L1.hs)]; exact l.hs, l.ne, l.few⟩, g1, g2, by rw [upd_ne (ne hL)]; exact g3, g4, g5, g6⟩
    · have lr : rest.length = 100 - j := by
        have := g6.length_eq
        rw [List.length_append, g5] at this
        have e : all100.length = 100 := by decide +kernel
        omega
      intro _ _ _ _ _
      refine we_popAt (x2 _ _ g3) (me_var 3) fun H3 x3 => we_bin op_mod (we_callL () GC hr trivial (l.ex (x2.trans x3)) (by omega) (me_var 0) (me_var 1) ma_nil fun u H4 k2 b4 l4 k1 k3 ⟨n, en, hn⟩ => ?_)
      subst en
      have g34 : H4 pL = some (.lst (rest.map V.int)) := b4 _ _ lS ((x2.trans x3) _ _ g3)
      refine (me_lenL B (me_is (me_var 3) (liI.mpr ⟨pL, rfl, g34⟩))).we fun y H5 x5 ey => ?_
      have lp : 0 < rest.length := by omega
      have hlt : n % rest.length < rest.length := Nat.mod_lt _ lp
      refine ⟨(n : Int), (rest.length : Int), rfl, ey, by omega, n % rest.length, .int rest[n % rest.length], by push_cast; rfl, by omega, x5 _ _ g34, by rw [List.getElem?_map, List.getElem?_eq_getElem hlt]; rfl, ?_, k2, got ++ [rest[n % rest.length]], rest.eraseIdx (n % rest.length), ?_, by omega, by omega, ?_, ?_, ?_, ?_⟩
      · exact (ExB.of (x2.trans x3)).trans ((b4.sub fun b e => .inl e).trans ((ExB.of x5).trans (ExB.up (.inr rfl))))
      · exact ⟨by rw [upd_ne (Ne.symm lC)]; exact x5 _ _ l4.hc, by rw [upd_ne (Ne.symm lS)]; exact x5 _ _ l4.hs, l4.ne, l4.few⟩
      · rw [upd_same, eraseMap]
      · rw [g4, List.map_append]
        rfl
      · rw [List.length_append, g5]
        rfl
      · refine List.Perm.trans ?_ g6
        rw [List.append_assoc]
        exact List.Perm.append_left _ (erasePerm rest _ hlt)
    · have b0 : ExB (· = pS) H G := fun c o n e => b c o (fun z => z.elim n fun z => by
        rw [z, nL] at e
        cases e) (x1 _ _ e)
      refine q _ _ k' (b0.trans (ExB.of (exNew nt))) (l.ex (exNew nt)) g1 (by omega) ⟨got, tuI.mpr ⟨t, rfl, .inl (by rw [upd_same, g4])⟩, g5, ?_⟩
      have nd : got.Nodup := (List.nodup_append.mp (g6.nodup_iff.mpr all100Nd)).1
      exact ⟨by omega, fun m hm => all100In m (g6.mem_iff.mp (List.mem_append_left _ hm)), nd⟩

/-! ### _law_turned -/
structure SubO (o d : List Int) : Prop where
  nd : o.Nodup
  sub : ∀ x ∈ o, x ∈ d
  len : o.length ≤ d.length
def TurnV (d : List Int) : Pv := fun v H => ∃ o : List Int, Tu RI o v H ∧ SubO o d
abbrev spTurn : Sp := SpL (δ := List Int) 8 (fun d => [Tu RI d]) (fun d => d.length ≤ 7 ∧ d.Nodup) TurnV
abbrev nTurn : List Str := ["_law_cells", "_law_spot", "_law_order_here", "_law_n", "_law_one", "_law_at"]
theorem scTurn : FnScope nTurn ["_law_cells", "_law_spot", "_law_order_here"] (defScope sLawTurned) := ⟨rfl, rfl, rfl, by decide +kernel, rfl, by decide +kernel, by decide +kernel⟩
theorem swapPerm (d : List Int) (i : Nat) (h : i + 1 < d.length) : (d.take i ++ [d[i + 1], d[i]] ++ d.drop (i + 2)).Perm d := by
  have e : d = d.take i ++ (d[i] :: d[i + 1] :: d.drop (i + 2)) := by
    conv => lhs; rw [← List.take_append_drop i d, List.drop_eq_getElem_cons (by omega : i < d.length), List.drop_eq_getElem_cons (by omega : i + 1 < d.length)]
  conv => rhs; rw [e]
  rw [List.append_assoc]
  exact List.Perm.append_left _ (List.Perm.swap _ _ _)
theorem hTurn (B : Bl mg) (D : Df K mg "_law_turned" sLawTurned) (GC : GCell P w K mg base) : Has P w K mg base CX0 "_law_turned" 2 ["_law_cells", "_law_spot", "_law_order_here"] spTurn :=
  .mkL D scTurn (fun _ _ _ _ _ _ us hl => match us, hl with | [_, _, _], _ => rfl) (fun _ => rfl) fun f cdv A outer s H us Q E d pC pS cells k hr ho ha L hk q => by
    obtain ⟨v, rfl, hv⟩ := p1 ha
    obtain ⟨d7, dn⟩ := ho
    -- n = cell
    refine wss_cons (ws_set 3 scTurn.nd (we_callL () GC hr trivial L (by omega) (me_var 0) (me_var 1) ma_nil fun u H1 k1 b1 L1 c1 c2 ⟨n, en, hn⟩ => ?_))
    subst en
    have hv1 : Tu RI d v H1 := Im.im (R := Tu RI) (L.tk b1) hv
    -- if n % 4 == 0
    refine wss_cons (ws_if (MT.wt (mt_eqS (me_I op_mod (me_var 3) me_int (by decide)) me_int) fun H2 x2 => ?_))
    have L2 := L1.ex x2
    have hv2 := MoR.mo (R := Tu RI) x2 hv1
    by_cases h4 : (V.int ((n : Int) % 4) = V.int 0)
    · rw [decide_eq_true h4]
      refine iteT (wss_one (ws_ret (we_tupW B (we_lcE1 (n := d.length) (H := offS pS H2) 4 (mi_tup (R := RI) (me_var 2) (Im.im (R := Tu RI) L2.toff hv2)) offS_ex (· = pS) L2.off
        (fun j ys G => ∃ (k' : Nat) (o : List Int), LS pC pS cells k' G ∧ k1 ≤ k' ∧ k' ≤ k1 + j ∧ ys = o.map V.int ∧ o.Sublist (d.take j))
        (small1000 (by omega)) (fun H3 x3 => ⟨k1, [], L2.ex x3, Nat.le_refl _, Nat.le_refl _, rfl, List.nil_sublist _⟩) (fun j ys G b xs nb ⟨k', o, l, g1, g2, g3, g4⟩ => ?_)
        (fun j ys v G2 G3 hj ⟨k', o, l, g1, g2, g3, g4⟩ x3 ⟨t, ht, hy⟩ => ?_) (fun a G3 ys na b ⟨k', o, l, g1, g2, g3, g4⟩ hga _ => ⟨a, ys, rfl, hga, fun t nt => ?_⟩) scTurn.nd (blkOk_by (N := nTurn) (sc := defScope sLawTurned) (by decide +kernel))))))
      · have ne : ∀ {c o}, H2 c = some o → c ≠ b := fun h z => by
          rw [z, nb] at h
          cases h
        exact ⟨k', o, ⟨by rw [upd_ne (ne L2.hc)]; exact l.hc, by rw [upd_ne (ne L2.hs)]; exact l.hs, l.ne, l.few⟩, g1, g2, g3, g4⟩
      · have hy' : v = .int t := hy
        subst hy'
        have et : d.take (j + 1) = d.take j ++ [t] := by
          rw [List.take_add_one, ht]
          rfl
        intro _ _ _ _ _
        refine wt_cI op_gt (we_bin op_mod (we_callL () GC hr trivial (l.ex x3) (by omega) (me_var 0) (me_var 1) ma_nil fun u H4 k2 b4 l4 k3 k4 ⟨m, em, hm⟩ => we_int ⟨(m : Int), 4, em, rfl, (show (0 : Int) < 4 by decide), we_int ⟨_, _, rfl, rfl, ?_⟩⟩))
        by_cases hc : (m : Int) % 4 > 0
        · rw [decide_eq_true hc]
          simp only [if_true]
          intro _ _ _ _ _
          refine ME.we (me_var 4) fun u H5 x5 eu => ⟨(ExB.of x3).trans (b4.trans (ExB.of x5)), k2, o ++ [t], l4.ex x5, by omega, by omega, ?_, ?_⟩
          · have eu' : u = .int t := eu
            rw [eu', g3, List.map_append]
            rfl
          · rw [et]
            exact List.Sublist.append g4 (List.Sublist.refl _)
        · rw [decide_eq_false hc]
          simp only [Bool.false_eq_true, if_false]
          refine ⟨(ExB.of x3).trans b4, k2, o, l4, by omega, by omega, g3, ?_⟩
          rw [et]
          exact g4.trans (List.sublist_append_left _ _)
      · rw [List.take_length] at g4
        exact q _ _ k' (b1.trans ((ExB.of x2).trans (b.trans (ExB.of (exNew nt))))) (l.ex (exNew nt)) (by omega) (by omega) ⟨o, tuI.mpr ⟨t, rfl, .inl (by rw [upd_same, g3])⟩, dn.sublist g4, fun x hx => g4.subset hx, g4.length_le⟩
    · rw [decide_eq_false h4]
      refine iteF (wss_nil ?_)
      -- if n % 4 > 1 or len(order) < 2
      refine wss_cons (ws_if (MT.wt (MW.mt (mw_or (mt_cI op_gt (me_I op_mod (me_var 3) me_int (by decide)) me_int) fun _ => mw_or1 (mt_cI op_lt (me_lenT B (me_is (me_var 2) hv2)) me_int))) fun H3 x3 => ?_))
      have hv3 := MoR.mo (R := Tu RI) x3 hv2
      have x13 := x2.trans x3
      cases hb : (decide ((n : Int) % 4 > 1) || decide ((d.length : Int) < 2)) with
      | true =>
        refine iteT (wss_one (ws_ret (ME.we (me_var 2) fun u H4 x4 eu => ?_)))
        have eu' : u = v := eu
        rw [eu']
        exact q _ H4 k1 (b1.trans (ExB.of (x13.trans x4))) (L1.ex (x13.trans x4)) (by omega) (by omega) ⟨d, MoR.mo (R := Tu RI) x4 hv3, dn, fun x hx => hx, Nat.le_refl _⟩
      | false =>
        refine iteF (wss_nil ?_)
        have hb2 := (Bool.or_eq_false_iff.mp hb).2
        have d2 : 2 ≤ d.length := by
          have := of_decide_eq_false hb2
          omega
        -- at = n // 4 % (len(order) - 1)
        refine wss_cons (ws_set 5 scTurn.nd (ME.we (me_I op_mod (me_I op_fdiv (me_var 3) me_int ⟨by decide, by decide⟩) (me_I0 op_sub (me_lenT B (me_is (me_var 2) hv3)) me_int) (by omega)) fun u H4 x4 eu => ?_))
        obtain ⟨i, hi⟩ : ∃ i, n / 4 % (d.length - 1) = i := ⟨_, rfl⟩
        have ib : i < d.length - 1 := by
          rw [← hi]
          exact Nat.mod_lt _ (by omega)
        have eu' : u = .int ((i : Nat) : Int) := by
          have e1 : u = .int ((n : Int) / 4 % ((d.length : Int) - 1)) := eu
          rw [e1, ← hi]
          congr 1
          have e2 : (d.length : Int) - 1 = ((d.length - 1 : Nat) : Int) := by omega
          rw [e2]
          push_cast
          rfl
        subst eu'
        have hv4 := MoR.mo (R := Tu RI) x4 hv3
        have hx1 : atI d ((i : Int) + 1) = some d[i + 1] := by
          have e : (i : Int) + 1 = ((i + 1 : Nat) : Int) := by omega
          rw [e, atNat]
          exact List.getElem?_eq_getElem (by omega)
        have hx0 : atI d (i : Int) = some d[i] := by
          rw [atNat]
          exact List.getElem?_eq_getElem (by omega)
        have lt : (d.take i).length ≤ 7 := Nat.le_trans (List.length_take_le' _ _) d7
        -- return ..
        refine wss_one (ws_ret (ME.we (me_cat (R := RI) (es' := d.drop (i + 2)) (me_cat (R := RI) (ds := d.take i) (es' := [d[i + 1], d[i]]) (me_take (k := i) (me_is (me_var 2) hv4) (me_var 5)) ((mn_tup (Ps := [RI d[i + 1], RI d[i]]) (ma_cons (me_ixT (R := RI) (me_is (me_var 2) hv4) (me_I0 op_add (me_var 5) me_int) hx1) (ma_cons (me_ixT (R := RI) (me_is (me_var 2) hv4) (me_var 5) hx0) ma_nil)) (moCons (moCons moNil)) (by simp)).me.imp fun v H x h => TuP.tu (ds := [d[i + 1], d[i]]) h) (by simp; omega))
          (me_drop (k := i + 2) (me_is (me_var 2) hv4) (ME.imp (P := Is (.int ((i : Int) + 2))) (me_I0 op_add (me_var 5) me_int) fun v H x h => by
            have e : v = V.int ((i : Int) + 2) := h
            show v = V.int ((i + 2 : Nat) : Int)
            rw [e]
            push_cast
            rfl)) (by simp; omega)) fun u H5 x5 hu => ?_))
        have pm := swapPerm d i (by omega)
        exact q _ H5 k1 (b1.trans (ExB.of (x13.trans (x4.trans x5)))) (L1.ex (x13.trans (x4.trans x5))) (by omega) (by omega) ⟨_, hu, pm.nodup_iff.mpr dn, fun x hx => pm.mem_iff.mp hx, Nat.le_of_eq pm.length_eq⟩
end
end Wk
set_option Elab.async false
set_option linter.all false
set_option maxRecDepth 100000
set_option maxHeartbeats 4000000
/-! A tuple times nothing or once. -/
namespace Wk
open PySem PySem.Spec PyProof.Rows L2
theorem tupOnce (a : Addr) (xs : Array Value) (m : Nat) (od : Option Addr) (so : Array (Option Value)) (u : Tok) (ne : xs.isEmpty = false) :
    Meets (Builtin.«tuple.__mul__» ⟨[.ref a, .int 1 u], []⟩) (fun _ R s => s.heap.get? a = some { cls := .type "tuple", dict := od, data := .seq xs m, slots := so } ∧ R (.ok (.ret (Value.ref a))) s) :=
  .of_wp fun prog w A R s h => by
    obtain ⟨hp, g, d, tk, os⟩ := s
    obtain ⟨here, fin⟩ := h
    have one := AutoSeq1.idx_int
    have cc : (xs.isEmpty || (1 : Int) == 1) = true := by rw [Bool.or_eq_true]; exact .inr rfl
    wp_walk using wpAny_loadPart' here
    exact ⟨_, rfl, fin⟩
theorem tupNone (a : Addr) (xs : Array Value) (m : Nat) (od : Option Addr) (so : Array (Option Value)) (u : Tok) (ne : xs.isEmpty = false) :
    Meets (Builtin.«tuple.__mul__» ⟨[.ref a, .int 0 u], []⟩) (fun _ R s => s.heap.get? a = some { cls := .type "tuple", dict := od, data := .seq xs m, slots := so } ∧
      R (.ok (.ret (Value.ref s.heap.objs.size))) { s with heap := s.heap.push { cls := Value.type "tuple", data := Data.seq #[] } }) :=
  .of_wp fun prog w A R s h => by
    obtain ⟨hp, g, d, tk, os⟩ := s
    obtain ⟨here, fin⟩ := h
    have one := AutoSeq1.idx_int
    have cc : (xs.isEmpty || (0 : Int) == 1) = false := by rw [ne]; rfl
    have c2 : (decide ((0 : Int) ≤ 0) || xs.isEmpty) = true := by rw [Bool.or_eq_true]; exact .inl rfl
    wp_walk using wpAny_loadPart' here
    repeat (first
      | (refine wpAny_ite_false (decide_eq_false (by rw [cc]; exact Bool.false_ne_true)) ?_; wp_walk using wpAny_loadPart' here)
      | (refine wpAny_ite_true (decide_eq_true c2) ?_; wp_walk using wpAny_loadPart' here))
    exact ⟨_, rfl, fin⟩
/-- t * 0, t * 1, t a tuple with items -/
def rRep01 (K : PySem.W.Frag) : R2 := fun x y H Q => ∃ (l : Addr) (k : Bool) (xs : List V), x = .ref l ∧ y = .int (if k = true then 1 else 0) ∧ SqT K H l xs ∧ xs ≠ [] ∧ (k = true → Q (.ref l) H) ∧ (k = false → ∀ p, H p = none → Q (.ref p) (upd H p (.tup [])))
theorem op_rep01 {X : Cx} : OpR X (binaryOp .Mult) (rRep01 X.K) := by
  intro pins s σ H x y v u Q I rx ry h
  obtain ⟨l, k, xs, rfl, rfl, hT, ne, q1, q0⟩ := h
  cases rx
  obtain ⟨t, rfl⟩ := ry
  obtain ⟨its, r, ⟨⟨cls, dd, data, sl⟩, ho, hc, n, hd⟩, hs⟩ := I.tuple hT
  simp only at hc hd
  subst hc hd
  have lens := r.length
  have filled : its.toArray.isEmpty = false := by
    cases its with
    | nil => exact absurd (List.eq_nil_of_length_eq_zero lens) ne
    | cons a b => rfl
  cases k with
  | true =>
    refine wpAny_binaryOp_repeat_ref (T := "tuple") (U := "int") (by decide) ⟨_, ho, rfl⟩ (fun z => typeIs_int z 1 t) noFill_tuple_mul F.fills_int_mul F.slot_int_rmul repeat_tuple F.slot_int_index.lookup
      (call_meets F.slot_int_rmul (typeIs_int s 1 t) F.entry_int_rmul (F.args_int_rmul_2 _ _) (int_rmul_tuple 1 t l its.toArray n dd sl)
        ⟨ho, rfl, ⟨_, ho, rfl⟩, call_meets F.slot_tuple_mul ⟨_, ho, rfl⟩ F.entry_tuple_mul (F.args_tuple_mul_2 _ _) (tupOnce l its.toArray n dd sl t filled) ⟨ho, ?_⟩⟩)
    exact ⟨.ref l, H, I, rfl, q1 rfl⟩
  | false =>
    refine wpAny_binaryOp_repeat_ref (T := "tuple") (U := "int") (by decide) ⟨_, ho, rfl⟩ (fun z => typeIs_int z 0 t) noFill_tuple_mul F.fills_int_mul F.slot_int_rmul repeat_tuple F.slot_int_index.lookup
      (call_meets F.slot_int_rmul (typeIs_int s 0 t) F.entry_int_rmul (F.args_int_rmul_2 _ _) (int_rmul_tuple 0 t l its.toArray n dd sl)
        ⟨ho, rfl, ⟨_, ho, rfl⟩, call_meets F.slot_tuple_mul ⟨_, ho, rfl⟩ F.entry_tuple_mul (F.args_tuple_mul_2 _ _) (tupNone l its.toArray n dd sl t filled) ⟨ho, ?_⟩⟩)
    exact ⟨.ref s.heap.objs.size, _, I.laid (t' := s.toks) (o := .tup []) (fun b ob q => Heap.get?_push_of_some _ q) (Nat.le_refl _) ⟨Nat.zero_le _, [], .nil, IsTup.new _ _⟩, rfl, q0 rfl _ (I.hok.fresh (Nat.le_refl _))⟩
section
variable {X : Cx} {a b e c : Expr} {σ : L2.St} {H : Hp} {pos p : Pos}
theorem me_rep01 {α : Type} {R : Rp α} [MoR R] {d : α} {k : Bool} (ha : ME X a σ H (Tu R [d])) (hb : ME X b σ H (Is (.int (if k = true then 1 else 0)))) : ME X (.BinOp a .Mult b pos) σ H (Tu R (if k = true then [d] else [])) := fun H1 x1 Q q =>
  .of (pe_op op_rep01 pe_we pe_we) (ha H1 x1 _ fun x H2 x2 t => hb H2 (x1.trans x2) _ fun y H3 x3 ey => by
    obtain ⟨c, xs, rfl, h2, h3⟩ := MoR.mo (R := Tu R) x3 t
    refine ⟨c, k, xs, rfl, ey, .inl h2, fun z => ?_, fun hk => q _ H3 (x2.trans x3) ?_, fun hk p hp => q _ _ ((x2.trans x3).trans (exNew hp)) ?_⟩
    · have := pLen h3
      rw [z] at this
      cases this
    · rw [if_pos hk]
      exact ⟨c, xs, rfl, h2, h3⟩
    · rw [hk]
      exact ⟨p, [], rfl, .inl upd_same, .nil⟩)
theorem we_ifE {Q : VK} (h : WT X c σ H fun k H1 => if k = true then WE X a σ H1 Q else WE X b σ H1 Q) : WE X (.IfExp c a b pos) σ H Q := .of (pe_ifExp pt_wt pe_we pe_we) h
end
end Wk
set_option Elab.async false
set_option linter.all false
set_option maxRecDepth 100000
set_option maxHeartbeats 4000000
/-! The law's helpers: _law_kept. -/
namespace Wk
open PySem PySem.Spec PyProof.Rows L2
open Classical in
/-- H without these -/
noncomputable def offD (D : Addr → Prop) (H : Hp) : Hp := fun b => if D b then none else H b
theorem offD_in {D : Addr → Prop} {H : Hp} {b : Addr} (h : D b) : offD D H b = none := by
  unfold offD
  rw [if_pos h]
theorem offD_out {D : Addr → Prop} {H : Hp} {b : Addr} (h : ¬ D b) : offD D H b = H b := by
  unfold offD
  rw [if_neg h]
theorem offD_ex {D : Addr → Prop} {H : Hp} : Ex (offD D H) H := fun b o e => by
  by_cases h : D b
  · rw [offD_in h] at e
    cases e
  · rw [offD_out h] at e
    exact e
theorem offD_tk {D : Addr → Prop} {H : Hp} (h : ∀ b, D b → ∃ xs, H b = some (.lst xs)) : Tk H (offD D H) := fun b xs r => by
  rcases r with r | ⟨ob, r⟩
  · exact .inl (by
      rw [offD_out fun d => ?_]
      · exact r
      · obtain ⟨ys, hy⟩ := h b d
        rw [r] at hy
        cases hy)
  · exact .inr ⟨ob, by
      rw [offD_out fun d => ?_]
      · exact r
      · obtain ⟨ys, hy⟩ := h b d
        rw [r] at hy
        cases hy⟩
theorem offD_D {D : Addr → Prop} {H : Hp} (h : ∀ b, D b → ∃ xs, H b = some (.lst xs)) : ∀ b, D b → offD D H b = none ∧ H b ≠ none := fun b d => ⟨offD_in d, by
  obtain ⟨ys, hy⟩ := h b d
  rw [hy]
  exact fun z => nomatch z⟩
/-! ### plainly -/
def CrossOk (d : List Int) (c : List (List Int)) : Prop := ∃ a b, c = [a, b] ∧ (a ++ b).Nodup ∧ ∀ x ∈ a ++ b, x ∈ d
structure BunOk (d : List Int) (bs : List (List Int)) : Prop where
  few : bs.length ≤ 8
  nd : bs.flatten.Nodup
  sub : ∀ x ∈ bs.flatten, x ∈ d
theorem leOf {l m : List Int} (n : l.Nodup) (h : ∀ x ∈ l, x ∈ m) : l.length ≤ m.length := subLen n h
theorem subGood {l d : List Int} (g : GoodO d) (n : l.Nodup) (h : ∀ x ∈ l, x ∈ d) : GoodO l := ⟨Nat.le_trans (leOf n h) g.len, fun x hx => g.thr x (h x hx), n⟩
theorem inFlat {bs : List (List Int)} {b : List Int} (h : b ∈ bs) : b.Sublist bs.flatten := List.sublist_flatten_of_mem h
theorem goodKept {d : List Int} {cs : List (List (List Int))} {bs : List (List Int)} (g : GoodO d) (d7 : d.length ≤ 7) (c3 : cs.length ≤ 3) (hc : ∀ c ∈ cs, CrossOk d c) (hb : BunOk d bs) : GoodK ⟨srt d, cs, bs⟩ := by
  have pm := srt_perm d
  have lb := leOf hb.nd hb.sub
  have lc : ∀ c ∈ cs, c.flatten.length ≤ 7 := fun c h => by
    obtain ⟨a, b, rfl, n, s⟩ := hc c h
    have e : [a, b].flatten = a ++ b := by simp
    rw [e]
    exact Nat.le_trans (leOf n s) d7
  refine ⟨⟨by rw [pm.length_eq]; exact g.len, fun n hn => g.thr n (pm.mem_iff.mp hn), pm.nodup_iff.mpr g.nd⟩, srt_eq (.refl _) (srt_le d), c3, fun c h => ?_, ?_, ?_, ?_⟩
  · obtain ⟨a, b, rfl, n, s⟩ := hc c h
    have e : [a, b].flatten = a ++ b := by simp
    refine ⟨⟨by simp, by decide, fun o ho => ?_, by rw [e]; exact Nat.le_trans (leOf n s) (by omega), by rw [e]; exact n⟩, rfl⟩
    rcases List.mem_cons.mp ho with z | z
    · rw [z]
      exact subGood g (List.nodup_append.mp n).1 fun x hx => s x (List.mem_append_left _ hx)
    · rw [List.mem_singleton.mp z]
      exact subGood g (List.nodup_append.mp n).2.1 fun x hx => s x (List.mem_append_right _ hx)
  · refine ⟨?_, by decide, fun o ho => subGood g (hb.nd.sublist (inFlat ho)) fun x hx => hb.sub x ((inFlat ho).subset hx), ?_, hb.nd⟩
    · have := hb.few
      simp only []
      omega
    · simp only []
      omega
  · have l2 : ∀ l : List (List (List Int)), (∀ c ∈ l, c.flatten.length ≤ 7) → l.flatten.flatten.length ≤ 7 * l.length := by
      intro l
      induction l with
      | nil => exact fun _ => Nat.le_refl _
      | cons a l ih =>
        intro h
        have h1 := h a List.mem_cons_self
        have h2 := ih fun c hc => h c (List.mem_cons_of_mem _ hc)
        rw [List.flatten_cons, List.flatten_append, List.length_append, List.length_cons]
        omega
    have := l2 cs lc
    simp only []
    omega
  · intro t ht
    refine pm.mem_iff.mpr ?_
    rcases List.mem_append.mp ht with h | h
    · exact hb.sub t h
    · obtain ⟨s, hs, h1⟩ := List.mem_flatten.mp h
      obtain ⟨c, hc1, h2⟩ := List.mem_flatten.mp hs
      obtain ⟨a, b, rfl, n, sb⟩ := hc c hc1
      rcases List.mem_cons.mp h2 with z | z
      · rw [z] at h1
        exact sb t (List.mem_append_left _ h1)
      · rw [List.mem_singleton.mp z] at h1
        exact sb t (List.mem_append_right _ h1)
/-- pieces of this size -/
def piece (o : List Int) (c : Nat) (i : Nat) : List Int := (o.drop (i * c)).take c
theorem pieces (o : List Int) (c : Nat) : ∀ m, ((List.range m).map (piece o c)).flatten = o.take (m * c)
  | 0 => by simp
  | m + 1 => by
    rw [List.range_succ, List.map_append, List.flatten_append, pieces o c m]
    have e : (m + 1) * c = m * c + c := by rw [Nat.add_mul, Nat.one_mul]
    rw [e, List.take_add]
    simp [piece]
theorem cut_mid {α : Type} (xs : List α) (a c : Nat) : cutD xs (some (a : Int)) (some ((a + c : Nat) : Int)) = (xs.drop a).take c := by
  unfold cutD
  rw [HT.sIx_nat, HT.sIx_nat]
  rcases Nat.le_total a xs.length with h | h
  · rw [Nat.min_eq_left h]
    rcases Nat.le_total (a + c) xs.length with h2 | h2
    · rw [Nat.min_eq_left h2, Nat.add_sub_cancel_left]
    · rw [Nat.min_eq_right h2, List.take_of_length_le (by rw [List.length_drop]; exact Nat.le_refl _), List.take_of_length_le (by rw [List.length_drop]; omega)]
  · rw [Nat.min_eq_right h, List.drop_of_length_le (Nat.le_refl _), List.drop_of_length_le h]
    simp
theorem rg7 : ∀ l : Fin 8, ∀ c : Fin 6, 0 < c.val → RgC 0 (l.val : Int) (c.val : Int) ((l.val + c.val - 1) / c.val) := by
  unfold RgC
  decide +kernel
theorem cat0 (s : List Int) (t : Int) {s2 : List Int} (h : (s ++ s2).Nodup) (n : t ∉ s ++ s2) : (s ++ [t] ++ s2).Nodup := by
  rw [List.append_assoc, List.singleton_append]
  refine (List.perm_middle.nodup_iff).mpr (List.nodup_cons.mpr ⟨n, h⟩)
theorem cat1 (s : List Int) (t : Int) {s2 : List Int} (h : (s ++ s2).Nodup) (n : t ∉ s ++ s2) : (s ++ (s2 ++ [t])).Nodup := by
  rw [← List.append_assoc]
  exact ((List.perm_append_singleton t (s ++ s2)).nodup_iff).mpr (List.nodup_cons.mpr ⟨n, h⟩)
end Wk
set_option Elab.async false
set_option linter.all false
set_option maxRecDepth 100000
set_option maxHeartbeats 1000000
/-! The law's helpers: _law_kept walked. -/
namespace Wk
open PySem PySem.Spec PyProof.Rows L2
section
variable {P : Program} {w : World} {K : PySem.W.Frag} {mg : Str → Option Value} {base : Heap}
def KeptV (d : List Int) : Pv := fun v H => ∃ k : Kept, RKK k v H ∧ k.threads = srt d ∧ GoodK k
structure OrdOk (d : List Int) : Prop where
  good : GoodO d
  len : d.length ≤ 7
abbrev spLK : Sp := SpL (δ := List Int) 54 (fun d => [Tu RI d]) OrdOk KeptV
abbrev nLK : List Str := ["_law_cells", "_law_spot", "_law_order_here", "_law_n", "_law_crosses", "_law_bundles", "_law_k", "_law_some", "_law_sides", "_law_at", "_law_one", "_law_way", "_law_rest", "_law_size"]
theorem scLK : FnScope nLK ["_law_cells", "_law_spot", "_law_order_here"] (defScope sLawKept) := ⟨rfl, rfl, rfl, by decide +kernel, rfl, by decide +kernel, by decide +kernel⟩
def RSz (c : Nat) : Rp Nat := fun i v _ => v = .int ((i * c : Nat) : Int)
instance {c : Nat} : Im (RSz c) := ⟨fun _ h => h⟩
theorem rgLe : ∀ l : Fin 8, ∀ c : Fin 6, 0 < c.val → (l.val + c.val - 1) / c.val ≤ 7 := by decide +kernel
theorem we_tup {X : Cx} {es : List Expr} {σ : L2.St} {H : Hp} {k : Nat} {pos : Pos} {Q : VK} (h : WA X es σ H fun vs H1 => vs.length ≤ 1000 ∧ ∀ p, H1 p = none → Q (.ref p) (upd H1 p (.tup vs))) : WE X (.Tuple es k pos) σ H Q :=
  .of (pe_tup pa_wa) (h.mono fun vs H1 ⟨h1, h2⟩ => ⟨sq1000 h1, h2⟩)
theorem me_mid {X : Cx} {e l u : Expr} {σ : L2.St} {H : Hp} {p2 pos : Pos} {α : Type} {R : Rp α} [MoR R] {ds : List α} {a c : Nat} (ha : ME X e σ H (Tu R ds)) (hl : ME X l σ H (Is (.int (a : Int)))) (hu : ME X u σ H (Is (.int ((a + c : Nat) : Int)))) : ME X (.Subscript e (.Slice (some l) (some u) none p2) pos) σ H (Tu R ((ds.drop a).take c)) :=
  cut_mid ds a c ▸ me_slT (l := some (a : Int)) (u := some ((a + c : Nat) : Int)) ha hl hu
theorem ix4 : ∀ {i : Nat}, i < 3 → ∃ dv : Int, atI [(4 : Int), 20, 100] (i : Int) = some dv ∧ 0 < dv ∧ dv < 1073741824
  | 0, _ => ⟨4, by rw [atNat]; rfl, by decide, by decide⟩
  | 1, _ => ⟨20, by rw [atNat]; rfl, by decide, by decide⟩
  | 2, _ => ⟨100, by rw [atNat]; rfl, by decide, by decide⟩
theorem emptyT {X : Cx} {σ : L2.St} {H : Hp} {k : Nat} {pos : Pos} {α : Type} {R : Rp α} : ME X (.Tuple [] k pos) σ H (Tu R []) := (mn_tup ma_nil moNil (Nat.zero_le _)).me.imp fun v H x h => TuP.tu (ds := ([] : List α)) h
theorem oneT {X : Cx} {e : Expr} {σ : L2.St} {H : Hp} {k : Nat} {pos : Pos} {n : Int} (h : ME X e σ H (RI n)) (hs : starEach [e] X.env = (false, eval e X.env) :: starEach [] X.env := by rfl) : ME X (.Tuple [e] k pos) σ H (Tu RI [n]) := (mn_tup (ma_cons h ma_nil hs) (moCons moNil) (by simp)).me.imp fun v H x h => TuP.tu (ds := [n]) h
theorem hLK (B : Bl mg) (D : Df K mg "_law_kept" sLawKept) (GC : GCell P w K mg base) (GT : Has P w K mg base CX0 "_law_turned" 2 ["_law_cells", "_law_spot", "_law_order_here"] spTurn) : Has P w K mg base CX0 "_law_kept" 3 ["_law_cells", "_law_spot", "_law_order_here"] spLK :=
  .mkL D scLK (fun _ _ _ _ _ _ us hl => match us, hl with | [_, _, _], _ => rfl) (fun _ => rfl) fun f cdv A outer s H us Q E d pC pS cells k hr ho ha L hk q => by
    obtain ⟨v, rfl, hv⟩ := p1 ha
    have d7 := ho.len
    have dn := ho.good.nd
    have hr1 := hr.mono (j := 1) (by decide)
    -- n, crosses, bundles = ..
    refine wss_cons (ws_par3W 3 4 5 scLK.nd (wa_cons (we_callL () GC hr1 trivial L (by omega) (me_var 0) (me_var 1) ma_nil fun u H1 k1 b1 L1 c1 c2 ⟨n, en, hn⟩ => wa_cons ((mn_lst ma_nil moNil (Nat.zero_le _)).we fun pCr H2 nCr x2 hcr => wa_cons ((emptyT (R := Tu RI)).we fun vb H3 x3 hvb => wa_nil ⟨u, .ref pCr, vb, rfl, ?_⟩)))))
    subst en
    obtain ⟨p', xs0, e, hCr2, hx0⟩ := hcr
    cases e
    cases hx0
    have hCr3 := x3 _ _ hCr2
    have x13 := x2.trans x3
    have L3 := L1.ex x13
    have hv1 : Tu RI d v H1 := Im.im (R := Tu RI) (L.tk b1) hv
    have hv3 := MoR.mo (R := Tu RI) x13 hv1
    have crS : pCr ≠ pS := fun z => by
      rw [z, L1.hs] at nCr
      cases nCr
    have crC : pCr ≠ pC := fun z => by
      rw [z, L1.hc] at nCr
      cases nCr
    have lst3 : ∀ b, (b = pS ∨ b = pCr) → ∃ xs, H3 b = some (.lst xs) := fun b e => by
      rcases e with e | e
      · exact ⟨_, e ▸ L3.hs⟩
      · exact ⟨_, e ▸ hCr3⟩
    have n4 : (n : Int) % 4 < 4 := Int.emod_lt_of_pos _ (by decide)
    have n40 : 0 ≤ (n : Int) % 4 := Int.emod_nonneg _ (by decide)
    -- for k in range(n % 4)
    refine wss_cons (ws_for (fun b => b = pS ∨ b = pCr) (fun i σ G => ∃ (g6 g7 g8 g9 g10 g11 g12 g13 : Option V) (k' : Nat) (cs : List (List (List Int))) (xs : List V), σ = [some (.ref pC), some (.ref pS), some v, some (.int (n : Int)), some (.ref pCr), some vb, g6, g7, g8, g9, g10, g11, g12, g13] ∧
        ExB (fun b => b = pS ∨ b = pCr) H3 G ∧ LS pC pS cells k' G ∧ k1 ≤ k' ∧ k' ≤ k1 + 15 * i ∧ G pCr = some (.lst xs) ∧ Paired (fun x c => Tu (Tu RI) c x G) xs cs ∧ cs.length = i ∧ ∀ c ∈ cs, CrossOk d c)
      (mi_range (H := noHp) (j := (n : Int) % 4) B.range (me_I op_mod (me_var 3) me_int (by decide)) (by omega) (by omega)) exNo (fun b e => ⟨rfl, by obtain ⟨xs, h⟩ := lst3 b e; rw [h]; exact fun z => nomatch z⟩) PassesOwn.never rfl
      (fun G x => ⟨none, none, none, none, none, none, none, none, k1, [], [], rfl, ExB.of x, L3.ex x, Nat.le_refl _, by omega, x _ _ hCr3, .nil, rfl, fun c h => nomatch h⟩) (fun i u σ G G2 hi ⟨g6, g7, g8, g9, g10, g11, g12, g13, k', cs, xs, e, bG, LG, l1, l2, hCr, hP, lcs, hcs⟩ xG hu => ?_)
      fun σ G ⟨g6, g7, g8, g9, g10, g11, g12, g13, k', cs, xs, e, bG, LG, l1, l2, hCr, hP, lcs, hcs⟩ => ?_)
    · subst e
      subst hu
      have i3 : i < 3 := by omega
      have LG2 := LG.ex xG
      have hCr2 := xG _ _ hCr
      have hP2 := pImp (fun _ _ r => MoR.mo (R := Tu (Tu RI)) xG r) hP
      have hvG : Tu RI d v G2 := MoR.mo (R := Tu RI) xG (Im.im (R := Tu RI) (tkLst bG lst3) hv3)
      refine wg_name 6 scLK.nd ?_
      -- some, sides = turned(..), [(), ()]
      refine wss_cons (ws_parW 7 8 scLK.nd (wa_cons (we_callL d GT (hr.mono (by decide)) ⟨d7, dn⟩ LG2 (by omega) (me_var 0) (me_var 1) (ma_cons (me_is (me_var 2) hvG) ma_nil) fun u H5 k5 b5 L5 c5 c6 ⟨o, hO, so⟩ =>
        wa_cons ((mn_lst (Ps := [Tu RI [], Tu RI []]) (ma_cons emptyT (ma_cons emptyT ma_nil)) (moCons (moCons moNil)) (by simp)).we fun pSd H6 nSd x6 hsd => wa_nil ⟨u, .ref pSd, rfl, ?_⟩))))
      obtain ⟨p'', ys, e, hSd6, hyp⟩ := hsd
      cases e
      obtain ⟨y0, y1, rfl, hy0, hy1⟩ := p2 hyp
      have L6 := L5.ex x6
      have hO6 := MoR.mo (R := Tu RI) x6 hO
      have hCr5 : H5 pCr = some (.lst xs) := b5 _ _ crS hCr2
      have hCr6 := x6 _ _ hCr5
      have sdS : pSd ≠ pS := fun z => by
        rw [z, L5.hs] at nSd
        cases nSd
      have sdC : pSd ≠ pC := fun z => by
        rw [z, L5.hc] at nSd
        cases nSd
      have sdCr : pSd ≠ pCr := fun z => by
        rw [z, hCr5] at nSd
        cases nSd
      have lst6 : ∀ b, (b = pS ∨ b = pSd) → ∃ xs, H6 b = some (.lst xs) := fun b e => by
        rcases e with e | e
        · exact ⟨_, e ▸ L6.hs⟩
        · exact ⟨_, e ▸ hSd6⟩
      have o7 : o.length ≤ 7 := Nat.le_trans so.len d7
      have hP6 : Paired (fun x c => Tu (Tu RI) c x H6) xs cs := pImp (fun _ _ r => MoR.mo (R := Tu (Tu RI)) x6 (Im.im (R := Tu (Tu RI)) (LG2.tk b5) r)) hP2
      -- for at, one in enumerate(some)
      refine wss_cons (ws_for (fun b => b = pS ∨ b = pSd) (fun j σ G' => ∃ (g9 g10 g11 : Option V) (k6 : Nat) (s0 s1 : List Int) (x0 x1 : V), σ = [some (.ref pC), some (.ref pS), some v, some (.int (n : Int)), some (.ref pCr), some vb, some (.int (i : Int)), some u, some (.ref pSd), g9, g10, g11, g12, g13] ∧
          ExB (fun b => b = pS ∨ b = pSd) H6 G' ∧ LS pC pS cells k6 G' ∧ k5 ≤ k6 ∧ k6 ≤ k5 + j ∧ G' pSd = some (.lst [x0, x1]) ∧ Tu RI s0 x0 G' ∧ Tu RI s1 x1 G' ∧ (s0 ++ s1).Nodup ∧ ∀ x ∈ s0 ++ s1, x ∈ o.take j)
        (mi_enumT (R := RI) (H := offD (fun b => b = pS ∨ b = pSd) H6) B.enum (me_var 7) (Im.im (R := Tu RI) (offD_tk lst6) hO6)) offD_ex (offD_D lst6) PassesOwn.never rfl
        (fun G' x => ⟨_, _, _, k5, [], [], y0, y1, rfl, ExB.of x, L6.ex x, Nat.le_refl _, by omega, x _ _ hSd6, MoR.mo (R := Tu RI) x hy0, MoR.mo (R := Tu RI) x hy1, List.nodup_nil, fun x h => nomatch h⟩)
        (fun j y σ G' G3 hj ⟨g9, g10, g11, k6, s0, s1, x0, x1, e, bG', LG', m1, m2, hSd, hs0, hs1, hnd, hsub⟩ xG' ⟨nd, hnd', r⟩ => ?_) fun σ G' ⟨g9, g10, g11, k6, s0, s1, x0, x1, e, bG', LG', m1, m2, hSd, hs0, hs1, hnd, hsub⟩ => ?_)
      · subst e
        rw [numAt] at hnd'
        obtain ⟨one, hone, e⟩ := Option.map_eq_some_iff.mp hnd'
        subst e
        obtain ⟨T, a', z', ey, hT, ha', hz'⟩ := r
        subst ey
        have ea : a' = .int (j : Int) := ha'
        have ez : z' = .int one := hz'
        subst ea ez
        have jl : j < o.length := (List.getElem?_eq_some_iff.mp hone).1
        have et : o.take (j + 1) = o.take j ++ [one] := by
          rw [List.take_add_one, hone]
          rfl
        have fresh : one ∉ s0 ++ s1 := fun h => by
          have h1 := hsub one h
          have h2 : (o.take (j + 1)).Nodup := so.nd.sublist (List.take_sublist _ _)
          rw [et] at h2
          exact (List.nodup_append.mp h2).2.2 _ h1 _ (List.mem_singleton.mpr rfl) rfl
        have L3' := LG'.ex xG'
        have ls : s0.length + s1.length ≤ 7 := by
          have := leOf hnd fun x h => List.mem_of_mem_take (hsub x h)
          rw [List.length_append] at this
          omega
        refine wg_tup rfl hT (wgs_cons (wg_name 9 scLK.nd (wgs_cons (wg_name 10 scLK.nd (wgs_nil ?_)))))
        obtain ⟨dv, hdv, dv0, dv1⟩ := ix4 i3
        -- way = ..
        refine wss_mid (fun τ G4 => ∃ (wy : Nat) (k7 : Nat), τ = [some (.ref pC), some (.ref pS), some v, some (.int (n : Int)), some (.ref pCr), some vb, some (.int (i : Int)), some u, some (.ref pSd), some (.int (j : Int)), some (.int one), some (.int (wy : Int)), g12, g13] ∧ ExB (· = pS) G3 G4 ∧ LS pC pS cells k7 G4 ∧ k6 ≤ k7 ∧ k7 ≤ k6 + 1) ?_ fun τ G4 ⟨wy, k7, e, b4, L4, w1, w2⟩ => ?_
        · refine ws_set 11 scLK.nd (we_ifE (MT.wt (mt_cI op_gt (me_I op_mod (me_I op_fdiv (me_var 3) (me_ixL (R := RI) (ds := [4, 20, 100]) (d := dv) ((mn_lst (Ps := [RI 4, RI 20, RI 100]) (ma_cons me_int (ma_cons me_int (ma_cons me_int ma_nil))) (moCons (moCons (moCons moNil))) (by simp)).me.imp fun v H x h => LiP.li (ds := [(4 : Int), 20, 100]) h) (me_var 6) hdv) ⟨dv0, dv1⟩) me_int (by decide)) me_int) fun G4 x4 => ?_))
          cases hb : decide ((n : Int) / dv % 5 > 0) with
          | true =>
            refine iteT (ME.we (me_I op_mod (me_var 9) me_int (by decide)) fun y G5 x5 ey => ?_)
            have ey' : y = .int ((j % 2 : Nat) : Int) := by
              have e : y = .int ((j : Int) % 2) := ey
              rw [e]
              push_cast
              rfl
            subst ey'
            exact ⟨j % 2, k6, rfl, ExB.of (x4.trans x5), L3'.ex (x4.trans x5), Nat.le_refl _, Nat.le_succ _⟩
          | false =>
            refine iteF (we_bin op_mod (we_callL () GC hr1 trivial (L3'.ex x4) (by omega) (me_var 0) (me_var 1) ma_nil fun y G5 k8 b5' L5' w1 w2 ⟨m, em, hm⟩ => we_int ⟨(m : Int), 3, em, rfl, (show (0 : Int) < 3 by decide), m % 3, k8, ?_, (ExB.of x4).trans b5', L5', w1, w2⟩))
            have e : ((m : Int) % 3) = ((m % 3 : Nat) : Int) := by push_cast; rfl
            exact congrArg (fun z : Int => [some (V.ref pC), some (V.ref pS), some v, some (V.int (n : Int)), some (V.ref pCr), some vb, some (V.int (i : Int)), some u, some (V.ref pSd), some (V.int (j : Int)), some (V.int one), some (V.int z), g12, g13]) e
        · subst e
          have x3T := tkLst (D := fun b => b = pS) b4 fun b e => ⟨_, (show b = pS from e) ▸ L3'.hs⟩
          have hSd4 : G4 pSd = some (.lst [x0, x1]) := b4 _ _ sdS (xG' _ _ hSd)
          have hs04 : Tu RI s0 x0 G4 := Im.im (R := Tu RI) x3T (MoR.mo (R := Tu RI) xG' hs0)
          have hs14 : Tu RI s1 x1 G4 := Im.im (R := Tu RI) x3T (MoR.mo (R := Tu RI) xG' hs1)
          have bb : ExB (fun b => b = pS ∨ b = pSd) G' G4 := (ExB.of xG').trans (b4.sub fun b e => .inl e)
          -- if way < 2
          refine wss_one (ws_if (MT.wt (mt_cI op_lt (me_var 11) me_int) fun G5 x5 => ?_))
          have L5' := L4.ex x5
          have hSd5 := x5 _ _ hSd4
          have hs05 := MoR.mo (R := Tu RI) x5 hs04
          have hs15 := MoR.mo (R := Tu RI) x5 hs14
          by_cases hw : (wy : Int) < 2
          · rw [decide_eq_true hw]
            refine iteT ?_
            have hw2 : wy = 0 ∨ wy = 1 := by omega
            rcases hw2 with e0 | e0
            · subst e0
              refine wss_one (ws_lset (j := 0) (P := Tu RI (s0 ++ [one])) hSd5 (me_var 8) (me_var 11) (me_cat (R := RI) (ds := s0) (es' := [one]) (me_is (me_ixLV (i := ((0 : Nat) : Int)) (me_var 8) (me_var 11) hSd5 (by rw [atNat]; rfl)) hs05) (oneT (me_is (me_var 10) (show RI one (.int one) G5 from rfl))) (by simp; omega)) (by show 0 < 2; decide) fun z G6 x6' hz => ?_)
              have hSd6' := x6' _ _ hSd5
              have tk6 := tkL (u := .lst ([x0, x1].set 0 z)) hSd6'
              refine ⟨⟨_, _, _, k7, s0 ++ [one], s1, z, x1, rfl, bG'.trans (bb.trans ((ExB.of (x5.trans x6')).trans (ExB.up (.inr rfl)))), ⟨by rw [upd_ne (Ne.symm sdC)]; exact x6' _ _ L5'.hc, by rw [upd_ne (Ne.symm sdS)]; exact x6' _ _ L5'.hs, L5'.ne, L5'.few⟩, by omega, by omega, upd_same, Im.im (R := Tu RI) tk6 hz, Im.im (R := Tu RI) tk6 (MoR.mo (R := Tu RI) x6' hs15), cat0 s0 one hnd fresh, fun x hx => ?_⟩, bb.trans ((ExB.of (x5.trans x6')).trans (ExB.up (.inr rfl)))⟩
              rw [et]
              simp only [List.mem_append, List.mem_singleton] at hx hsub ⊢
              rcases hx with (h | h) | h
              · exact .inl (hsub x (.inl h))
              · exact .inr h
              · exact .inl (hsub x (.inr h))
            · subst e0
              refine wss_one (ws_lset (j := 1) (P := Tu RI (s1 ++ [one])) hSd5 (me_var 8) (me_var 11) (me_cat (R := RI) (ds := s1) (es' := [one]) (me_is (me_ixLV (i := ((1 : Nat) : Int)) (me_var 8) (me_var 11) hSd5 (by rw [atNat]; rfl)) hs15) (oneT (me_is (me_var 10) (show RI one (.int one) G5 from rfl))) (by simp; omega)) (by show 1 < 2; decide) fun z G6 x6' hz => ?_)
              have hSd6' := x6' _ _ hSd5
              have tk6 := tkL (u := .lst ([x0, x1].set 1 z)) hSd6'
              refine ⟨⟨_, _, _, k7, s0, s1 ++ [one], x0, z, rfl, bG'.trans (bb.trans ((ExB.of (x5.trans x6')).trans (ExB.up (.inr rfl)))), ⟨by rw [upd_ne (Ne.symm sdC)]; exact x6' _ _ L5'.hc, by rw [upd_ne (Ne.symm sdS)]; exact x6' _ _ L5'.hs, L5'.ne, L5'.few⟩, by omega, by omega, upd_same, Im.im (R := Tu RI) tk6 (MoR.mo (R := Tu RI) x6' hs05), Im.im (R := Tu RI) tk6 hz, cat1 s0 one hnd fresh, fun x hx => ?_⟩, bb.trans ((ExB.of (x5.trans x6')).trans (ExB.up (.inr rfl)))⟩
              rw [et]
              simp only [List.mem_append, List.mem_singleton] at hx hsub ⊢
              rcases hx with h | h | h
              · exact .inl (hsub x (.inl h))
              · exact .inl (hsub x (.inr h))
              · exact .inr h
          · rw [decide_eq_false hw]
            refine iteF (wss_nil ⟨⟨_, _, _, k7, s0, s1, x0, x1, rfl, bG'.trans (bb.trans (ExB.of x5)), L5', by omega, by omega, hSd5, hs05, hs15, hnd, fun x hx => ?_⟩, bb.trans (ExB.of x5)⟩)
            rw [et]
            exact List.mem_append_left _ (hsub x hx)
      · subst e
        have tk' := tkLst bG' lst6
        have ls : s0.length + s1.length ≤ 7 := by
          have := leOf hnd fun x h => List.mem_of_mem_take (hsub x h)
          rw [List.length_append] at this
          omega
        have hj : k6 ≤ k5 + 7 := by
          rw [numLen] at m2
          omega
        have hCr' : G' pCr = some (.lst xs) := bG' _ _ (fun z => z.elim crS (Ne.symm sdCr)) hCr6
        have hPx : xs.length = i := (pLen hP6).trans lcs
        -- crosses.append(tuple(sides))
        refine wss_one (ws_expr (we_append hCr' (me_var 4) (me_tuL (R := Tu RI) (ds := [s0, s1]) B (me_is (me_var 8) ⟨pSd, [x0, x1], rfl, hSd, .cons hs0 (.cons hs1 .nil)⟩)).me (by omega) fun z G4 x4 hz => ?_))
        have hCr4 := x4 _ _ hCr'
        have tkc := tkL (u := .lst (xs ++ [z])) hCr4
        have L4 := LG'.ex x4
        have bAll : ExB (fun b => b = pS ∨ b = pCr) G (upd G4 pCr (.lst (xs ++ [z]))) := fun b o' nd e => by
          rw [upd_ne fun z => nd (.inr z)]
          have e5 := b5 _ _ (fun z => nd (.inl z)) (xG _ _ e)
          exact x4 _ _ (bG' _ _ (fun z => z.elim (fun z => nd (.inl z)) fun z => by
            rw [z, nSd] at e5
            cases e5) (x6 _ _ e5))
        refine ⟨⟨some (.int (i : Int)), some u, some (.ref pSd), g9, g10, g11, g12, g13, k6, cs ++ [[s0, s1]], xs ++ [z], rfl, bG.trans bAll, ⟨by rw [upd_ne (Ne.symm crC)]; exact L4.hc, by rw [upd_ne (Ne.symm crS)]; exact L4.hs, L4.ne, L4.few⟩, by omega, by omega, upd_same, ?_, by rw [List.length_append, lcs]; rfl, fun c hc => ?_⟩, bAll⟩
        · exact pApp (pImp (fun _ _ r => Im.im (R := Tu (Tu RI)) tkc (MoR.mo (R := Tu (Tu RI)) x4 (Im.im (R := Tu (Tu RI)) tk' r))) hP6) (.cons (Im.im (R := Tu (Tu RI)) tkc hz) .nil)
        · rcases List.mem_append.mp hc with h | h
          · exact hcs c h
          · rw [List.mem_singleton.mp h]
            exact ⟨s0, s1, rfl, hnd, fun x hx => so.sub x (List.mem_of_mem_take (hsub x hx))⟩
    · subst e
      have kb : k' ≤ k1 + 45 := by omega
      have tkG := tkLst bG lst3
      have hvG : Tu RI d v G := Im.im (R := Tu RI) tkG hv3
      have hvbG : Tu (Tu RI) [] vb G := Im.im (R := Tu (Tu RI)) tkG hvb
      -- if n // 500 % 2 == 1
      refine wss_mid (fun τ G2 => ∃ (bs : List (List Int)) (vb2 : V) (k4 : Nat) (h9 h12 h13 : Option V), τ = [some (.ref pC), some (.ref pS), some v, some (.int (n : Int)), some (.ref pCr), some vb2, g6, g7, g8, h9, g10, g11, h12, h13] ∧ ExB (· = pS) G G2 ∧ LS pC pS cells k4 G2 ∧ k' ≤ k4 ∧ k4 ≤ k' + 8 ∧ Tu (Tu RI) bs vb2 G2 ∧ BunOk d bs) ?_ fun τ G2 ⟨bs, vb2, k4, h9, h12, h13, e, b2, LG2, m1, m2, hbs, ok⟩ => ?_
      · refine ws_if (MT.wt (mt_eqS (me_I op_mod (me_I op_fdiv (me_var 3) me_int ⟨by decide, by decide⟩) me_int (by decide)) me_int) fun G2 x2 => ?_)
        by_cases hc : V.int ((n : Int) / 500 % 2) = V.int 1
        · rw [decide_eq_true hc]
          refine iteT ?_
          have LG2 := LG.ex x2
          -- rest, size = ..
          refine wss_cons (ws_asg (we_tup (wa_cons (we_callL d GT (hr.mono (by decide)) ⟨d7, dn⟩ LG2 (by omega) (me_var 0) (me_var 1) (ma_cons (me_is (me_var 2) (MoR.mo (R := Tu RI) x2 hvG)) ma_nil) fun u H5 k5 b5 L5 c5 c6 ⟨o, hO, so⟩ =>
            wa_cons ((me_I0 op_add me_int (me_I op_mod (me_I op_fdiv (me_var 3) me_int ⟨by decide, by decide⟩) me_int (by decide))).we fun z H6' x6' ez => wa_nil ⟨by show 2 ≤ 1000; decide, fun tp ntp => ?_⟩)))))
          obtain ⟨H6, x6, hT6⟩ : ∃ H6, Ex H5 H6 ∧ H6 = upd H6' tp (.tup [u, z]) := ⟨_, x6'.trans (exNew ntp), rfl⟩
          rw [← hT6]
          refine wg_tup rfl (show Rd H6 tp (.tup [u, z]) from .inl (by rw [hT6, upd_same])) (wgs_cons (wg_name 12 scLK.nd (wgs_cons (wg_name 13 scLK.nd (wgs_nil ?_)))))
          obtain ⟨c, hcc⟩ : ∃ c, 1 + n / 1000 % 5 = c := ⟨_, rfl⟩
          have c0 : 0 < c := by omega
          have c5' : c < 6 := by omega
          have ez' : z = .int (c : Int) := by
            have e : z = .int (1 + (n : Int) / 1000 % 5) := ez
            rw [e, ← hcc]
            congr 1
          subst ez'
          have o7 : o.length < 8 := by
            have := so.len
            omega
          have rg := rg7 ⟨o.length, o7⟩ ⟨c, c5'⟩ c0
          have m7 := rgLe ⟨o.length, o7⟩ ⟨c, c5'⟩ c0
          simp only [] at rg m7
          generalize hm : (o.length + c - 1) / c = m at rg m7
          have hO6 := MoR.mo (R := Tu RI) x6 hO
          -- bundles = tuple([..])
          refine wss_cons (ws_set 5 scLK.nd (ME.we (P := Tu (Tu RI) ((List.range m).map (piece o c))) (me_tuL B (mn_n0 (R := RSz c) (S := Tu RI) (ds := List.range m) 9 ((mi_range3 (lo := 0) (j := (o.length : Int)) (k := (c : Int)) (n := m) B.range me_int (me_lenT B (me_is (me_var 12) hO6)) (me_var 13) rg).conv (by rw [List.length_range]) fun i v H hi y => ⟨i, List.getElem?_range (by rw [List.length_range] at hi; exact hi), by
            have e : v = .int (0 + (i : Int) * (c : Int)) := y
            show v = V.int ((i * c : Nat) : Int)
            rw [e]
            congr 1
            push_cast
            omega⟩) (piece o c) (small1000 (by rw [List.length_range]; omega)) (fun i y H7 hi x7 r => ?_) scLK.nd (blkOk_by (N := nLK) (sc := defScope sLawKept) (by decide +kernel))).me).me fun vb1 H7 x7 hb1 => ?_))
          · have r' : y = .int ((i * c : Nat) : Int) := r
            subst r'
            intro _ _ _ _ _
            exact me_mid (a := i * c) (c := c) (me_is (me_var 12) (MoR.mo (R := Tu RI) x7 hO6)) (me_var 9) (ME.imp (P := Is (.int (((i * c : Nat) : Int) + (c : Int)))) (me_I0 op_add (me_var 9) (me_var 13)) fun v H x h => by
              have e : v = V.int (((i * c : Nat) : Int) + (c : Int)) := h
              show v = V.int ((i * c + c : Nat) : Int)
              rw [e]
              congr 1)
          · have lp : ((List.range m).map (piece o c)).length = m := by rw [List.length_map, List.length_range]
            -- bundles = bundles + ((),) * int(..)
            refine wss_one (ws_set 5 scLK.nd (ME.we (P := Tu (Tu RI) ((List.range m).map (piece o c) ++ (if decide (V.int ((n : Int) / 5000 % 5) = V.int 1) = true then [[]] else []))) (me_cat (R := Tu RI) (me_is (me_var 5) hb1) (me_rep01 (R := Tu RI) (d := []) ((mn_tup (Ps := [Tu RI []]) (ma_cons emptyT ma_nil) (moCons moNil) (by simp)).me.imp fun v H x h => TuP.tu (ds := [([] : List Int)]) h)
              (me_intB B (me_eqS (me_I op_mod (me_I op_fdiv (me_var 3) me_int ⟨by decide, by decide⟩) me_int (by decide)) me_int))) (by
                rw [lp]
                split <;> simp <;> omega)) fun vb2 H8 x8 hb2 => ⟨_, vb2, k5, _, _, _, rfl, ?_, L5.ex (x6.trans (x7.trans x8)), by omega, by omega, hb2, ?_⟩))
            · exact (ExB.of x2).trans (b5.trans (ExB.of (x6.trans (x7.trans x8))))
            · have fl : ((List.range m).map (piece o c) ++ (if decide (V.int ((n : Int) / 5000 % 5) = V.int 1) = true then [[]] else [])).flatten = o.take (m * c) := by
                rw [List.flatten_append, pieces]
                split <;> simp
              refine ⟨?_, by rw [fl]; exact so.nd.sublist (List.take_sublist _ _), fun x hx => by rw [fl] at hx; exact so.sub x (List.mem_of_mem_take hx)⟩
              rw [List.length_append, lp]
              split <;> simp <;> omega
        · rw [decide_eq_false hc]
          exact iteF (wss_nil ⟨[], vb, k', g9, g12, g13, rfl, ExB.of x2, LG.ex x2, Nat.le_refl _, by omega, MoR.mo (R := Tu (Tu RI)) x2 hvbG, ⟨by simp, List.nodup_nil, fun x h => nomatch h⟩⟩)
      · subst e
        have tk2 := LG.tk b2
        have hv2 : Tu RI d v G2 := Im.im (R := Tu RI) tk2 hvG
        have hCr2 : G2 pCr = some (.lst xs) := b2 _ _ crS hCr
        have hP2 : Paired (fun x c => Tu (Tu RI) c x G2) xs cs := pImp (fun _ _ r => Im.im (R := Tu (Tu RI)) tk2 r) hP
        have t20 : bs.take 20 = bs := List.take_of_length_le (by have := ok.few; omega)
        -- return (..)
        refine wss_one (ws_ret (MN.we (mn_tup (Ps := [TuK (srt d), Tu (Tu (Tu RI)) cs, Tu (Tu RI) (bs.take 20)]) (ma_cons (mn_tupleK B (me_sortedT B (me_is (me_var 2) hv2)).me).me (ma_cons (me_tuL B (me_is (me_var 4) ⟨pCr, xs, rfl, hCr2, hP2⟩)).me (ma_cons (me_take (k := 20) (me_is (me_var 5) hbs) (me_int (i := ((20 : Nat) : Int)))) ma_nil))) (moCons (moCons (moCons moNil))) (by simp)) fun a H9 na x9 r => ?_))
        obtain ⟨a', zs', e, hz, hps⟩ := r
        cases e
        obtain ⟨z1, z2, z3, rfl, r1, r2, r3⟩ := p3 hps
        rw [t20] at r3
        have b0 : ExB (· = pS) H G := fun b o nd e => by
          have e1 := b1 b o nd e
          exact bG b o (fun z => z.elim nd fun z => by
            rw [z, nCr] at e1
            cases e1) (x13 _ _ e1)
        exact q _ H9 k4 (b0.trans (b2.trans (ExB.of x9))) (LG2.ex x9) (by omega) (by omega) ⟨⟨srt d, cs, bs⟩, ⟨a, z1, z2, z3, rfl, .inl hz, r1, r2, r3⟩, rfl, goodKept ho.good d7 (by omega) hcs ok⟩
end
end Wk
set_option Elab.async false
set_option linter.all false
set_option maxRecDepth 100000
set_option maxHeartbeats 1000000
/-! The law's helpers: _law_reeded, _law_threaded. -/
namespace Wk
open PySem PySem.Spec PyProof.Rows L2
section
variable {X : Cx} {tg iter a b c : Expr} {σ : L2.St} {H : Hp} {pos : Pos} {ds : List Int}
theorem mi_mf (h : MF X iter σ H RI ds) : MI X tg iter σ H ds.length (At RI ds) := fun H1 x1 R0 q =>
  .of (pi_tup pe_we) (h H1 x1 _ fun v H2 x2 t alt => by
    obtain ⟨p, e, h2⟩ := tuI.mp t
    subst e
    have there : H2 p ≠ none := by
      rcases h2 with h | ⟨o, h⟩
      · rw [h]
        exact fun z => nomatch z
      · rw [h]
        exact fun z => nomatch z
    have hold : Holds H H1 H2 fun H3 => Rd H3 p (.tup (ds.map V.int)) := fun D H3 H4 hD x g => by
      have nd : ¬ D p := fun d => by
        obtain ⟨d1, d2⟩ := hD p d
        rcases alt with t' | ⟨p', e', n'⟩
        · obtain ⟨p', e', h'⟩ := tuI.mp t'
          cases e'
          rcases h' with h' | ⟨o, h'⟩
          · rw [d1] at h'
            cases h'
          · rw [d1] at h'
            cases h'
        · cases e'
          exact d2.elim (fun z => z n') fun z => there z
      rcases g with g | ⟨o, g⟩
      · exact .inl (x p _ nd g)
      · exact .inr ⟨o, x p _ nd g⟩
    refine ⟨p, rfl, ⟨_, .inl h2⟩, q _ H2 _ x2 h2 hold ⟨fun i H3 g hi => ?_, fun i H3 x H' g hi y => ?_, fun i H3 g hi => ⟨_, .inl g, by rw [List.length_map]; exact hi⟩⟩⟩
    · have hx : i < (ds.map V.int).length := by rw [List.length_map]; exact hi
      exact ⟨_, (ds.map V.int)[i], .inl g, List.getElem?_eq_getElem hx⟩
    · obtain ⟨e1, y⟩ := y
      subst e1
      have g1 := y _ (.inl g)
      rw [List.getElem?_map, List.getElem?_eq_getElem hi] at g1
      cases g1
      exact ⟨exr _, ds[i], List.getElem?_eq_getElem hi, rfl⟩)
theorem mf_if {k : Bool} (hc : MT X c σ H k) (ha : k = true → MF X a σ H RI ds) (hb : k = false → MF X b σ H RI ds) : MF X (.IfExp c a b pos) σ H RI ds := fun H1 x1 Q q =>
  .of (pe_ifExp pt_wt pe_we pe_we) (hc H1 x1 _ fun H2 x2 => by
    cases k with
    | true => exact iteT (ha rfl H2 (x1.trans x2) Q fun v H3 x3 t alt => q v H3 (x2.trans x3) t (alt.imp id fun ⟨p, e, n⟩ => ⟨p, e, Evl.fresh_back x2 n⟩))
    | false => exact iteF (hb rfl H2 (x1.trans x2) Q fun v H3 x3 t alt => q v H3 (x2.trans x3) t (alt.imp id fun ⟨p, e, n⟩ => ⟨p, e, Evl.fresh_back x2 n⟩)))
theorem mf_nil {k : Nat} : MF X (.Tuple [] k pos) σ H RI [] := fun H1 x1 Q q => mn_tup ma_nil moNil (Nat.zero_le _) H1 x1 Q fun p H2 np x2 r => q _ H2 x2 (TuP.tu (ds := ([] : List Int)) r) (.inr ⟨p, rfl, np⟩)
end
theorem flatNil : ∀ l : List Nat, (l.map fun _ => ([] : List Int)).flatten = []
  | [] => rfl
  | _ :: l => flatNil l
theorem setFlat (x : Int) : ∀ (rows : List (List Int)) (i : Nat) (h : i < rows.length), ((rows.set i (rows[i] ++ [x])).flatten).Perm (x :: rows.flatten)
  | r :: rows, 0, _ => by
    show ((r ++ [x]) ++ rows.flatten).Perm (x :: (r ++ rows.flatten))
    rw [List.append_assoc]
    exact List.perm_middle
  | r :: rows, i + 1, h => by
    show (r ++ (rows.set i (rows[i]'(Nat.lt_of_succ_lt_succ h) ++ [x])).flatten).Perm (x :: (r ++ rows.flatten))
    exact (List.Perm.append_left r (setFlat x rows i (Nat.lt_of_succ_lt_succ h))).trans List.perm_middle
theorem pSet {α β : Type} {F : α → β → Prop} {y : α} {e : β} (f : F y e) : ∀ {xs : List α} {ds : List β} (i : Nat), Paired F xs ds → Paired F (xs.set i y) (ds.set i e)
  | _, _, _, .nil => .nil
  | _, _, 0, .cons r t => .cons f t
  | _, _, i + 1, .cons r t => .cons r (pSet f i t)
section
variable {P : Program} {w : World} {K : PySem.W.Frag} {mg : Str → Option Value} {base : Heap}
def ReedV (d : List Int) : Pv := fun v H => ∃ rows : List (List Int), Tu (Tu RI) rows v H ∧ (rows = [] ∨ GoodD rows)
abbrev spReed : Sp := SpL (δ := List Int) 8 (fun d => [Tu RI d]) OrdOk ReedV
abbrev nReed : List Str := ["_law_cells", "_law_spot", "_law_order_here", "_law_n", "_law_at", "_law_dents", "_law_k", "_law_one", "_law_m"]
theorem scReed : FnScope nReed ["_law_cells", "_law_spot", "_law_order_here"] (defScope sLawReeded) := ⟨rfl, rfl, rfl, by decide +kernel, rfl, by decide +kernel, by decide +kernel⟩
theorem hReed (B : Bl mg) (D : Df K mg "_law_reeded" sLawReeded) (GC : GCell P w K mg base) : Has P w K mg base CX0 "_law_reeded" 2 ["_law_cells", "_law_spot", "_law_order_here"] spReed :=
  .mkL D scReed (fun _ _ _ _ _ _ us hl => match us, hl with | [_, _, _], _ => rfl) (fun _ => rfl) fun f cdv A outer s H us Q E d pC pS cells k hr ho ha L hk q => by
    obtain ⟨v, rfl, hv⟩ := p1 ha
    have d7 := ho.len
    have dn := ho.good.nd
    -- n, at = cell, 0
    refine wss_cons (ws_parW 3 4 scReed.nd (wa_cons (we_callL () GC hr trivial L (by omega) (me_var 0) (me_var 1) ma_nil fun u H1 k1 b1 L1 c1 c2 ⟨n, en, hn⟩ => wa_cons (we_int (wa_nil ⟨u, .int 0, rfl, ?_⟩)))))
    subst en
    have hv1 : Tu RI d v H1 := Im.im (R := Tu RI) (L.tk b1) hv
    -- if n % 4 == 0
    refine wss_cons (ws_if (MT.wt (mt_eqS (me_I op_mod (me_var 3) me_int (by decide)) me_int) fun H2 x2 => ?_))
    have L2 := L1.ex x2
    have hv2 := MoR.mo (R := Tu RI) x2 hv1
    by_cases h4 : (V.int ((n : Int) % 4) = V.int 0)
    · rw [decide_eq_true h4]
      exact iteT (wss_one (ws_ret ((emptyT (R := Tu RI)).we fun u H3 x3 hu => q u H3 k1 (b1.trans (ExB.of (x2.trans x3))) (L2.ex x3) (by omega) (by omega) ⟨[], hu, .inl rfl⟩)))
    · rw [decide_eq_false h4]
      refine iteF (wss_nil ?_)
      -- dents = [() ..]
      obtain ⟨R, hR⟩ : ∃ R, 1 + n / 4 % 9 = R := ⟨_, rfl⟩
      have r0 : 1 ≤ R := by omega
      have r9 : R ≤ 9 := by omega
      have eR : (1 + (n : Int) / 4 % 9) = (R : Int) := by omega
      refine wss_cons (ws_n0 (R := RN) (S := Tu RI) (j := 5) (ds := List.range R) 6 ((mi_range (j := 1 + (n : Int) / 4 % 9) B.range (me_I0 op_add me_int (me_I op_mod (me_I op_fdiv (me_var 3) me_int ⟨by decide, by decide⟩) me_int (by decide))) (by omega) (by omega)).conv (by rw [List.length_range]; omega) fun i v H hi y => ⟨i, List.getElem?_range (by rw [List.length_range] at hi; exact hi), y⟩) (fun _ => ([] : List Int)) (small1000 (by rw [List.length_range]; omega)) (fun s y H3 hs x3 r => ?_) (fun pD H3 nD x3 hD => ?_) scReed.nd
        (blkOk_by (N := nReed) (sc := defScope sLawReeded) (by decide +kernel)))
      · intro _ _ _ _ _
        exact emptyT
      obtain ⟨pD', xs0, e, hD3, hx0⟩ := hD
      cases e
      have L3 := L2.ex x3
      have hv3 := MoR.mo (R := Tu RI) x3 hv2
      have dS : pD ≠ pS := fun z => by
        rw [z, L2.hs] at nD
        cases nD
      have dC : pD ≠ pC := fun z => by
        rw [z, L2.hc] at nD
        cases nD
      have lst3 : ∀ b, (b = pS ∨ b = pD) → ∃ xs, H3 b = some (.lst xs) := fun b e => by
        rcases e with e | e
        · exact ⟨_, e ▸ L3.hs⟩
        · exact ⟨_, e ▸ hD3⟩
      -- for one in order
      refine wss_cons (ws_for (fun b => b = pS ∨ b = pD) (fun j σ G => ∃ (g6 g7 g8 : Option V) (k' at' : Nat) (rows : List (List Int)) (xs : List V), σ = [some (.ref pC), some (.ref pS), some v, some (.int (n : Int)), some (.int (at' : Int)), some (.ref pD), g6, g7, g8] ∧
          ExB (fun b => b = pS ∨ b = pD) H3 G ∧ LS pC pS cells k' G ∧ k1 ≤ k' ∧ k' ≤ k1 + j ∧ G pD = some (.lst xs) ∧ Paired (fun x r => Tu RI r x G) xs rows ∧ rows.length = R ∧ at' < R ∧ rows.flatten.Nodup ∧ ∀ x ∈ rows.flatten, x ∈ d.take j)
        (mi_tup (R := RI) (H := offD (fun b => b = pS ∨ b = pD) H3) (me_var 2) (Im.im (R := Tu RI) (offD_tk lst3) hv3)) offD_ex (offD_D lst3) PassesOwn.never rfl
        (fun G x => ⟨_, _, _, k1, 0, (List.range R).map (fun _ => ([] : List Int)), xs0, rfl, ExB.of x, L3.ex x, Nat.le_refl _, by omega, x _ _ hD3, pImp (fun _ _ r => MoR.mo (R := Tu RI) x r) hx0, by rw [List.length_map, List.length_range], r0, by rw [flatNil]; exact List.nodup_nil, fun y hy => by rw [flatNil] at hy; cases hy⟩)
        (fun j y σ G G2 hj ⟨g6, g7, g8, k', at', rows, xs, e, bG, LG, l1, l2, hDG, hP, lr, la, hnd, hsub⟩ xG ⟨one, hone, hy⟩ => ?_) fun σ G ⟨g6, g7, g8, k', at', rows, xs, e, bG, LG, l1, l2, hDG, hP, lr, la, hnd, hsub⟩ => ?_)
      · subst e
        have hy' : y = .int one := hy
        subst hy'
        have et : d.take (j + 1) = d.take j ++ [one] := by
          rw [List.take_add_one, hone]
          rfl
        have fresh : one ∉ rows.flatten := fun h => by
          have h1 := hsub one h
          have h2 : (d.take (j + 1)).Nodup := dn.sublist (List.take_sublist _ _)
          rw [et] at h2
          exact (List.nodup_append.mp h2).2.2 _ h1 _ (List.mem_singleton.mpr rfl) rfl
        have LG2 := LG.ex xG
        have fl7 : rows.flatten.length ≤ 7 := Nat.le_trans (leOf hnd fun x h => List.mem_of_mem_take (hsub x h)) d7
        refine wg_name 7 scReed.nd ?_
        -- m = cell
        refine wss_cons (ws_set 8 scReed.nd (we_callL () GC hr trivial LG2 (by omega) (me_var 0) (me_var 1) ma_nil fun u H4 k4 b4 L4 c3 c4 ⟨m, em, hm⟩ => ?_))
        subst em
        have hD4 : H4 pD = some (.lst xs) := b4 _ _ dS (xG _ _ hDG)
        have hP4 : Paired (fun x r => Tu RI r x H4) xs rows := pImp (fun _ _ r => Im.im (R := Tu RI) (LG2.tk b4) (MoR.mo (R := Tu RI) xG r)) hP
        have bG4 : ExB (fun b => b = pS ∨ b = pD) G H4 := (ExB.of xG).trans (b4.sub fun b e => .inl e)
        have hli : ∀ {H' : Hp}, Ex H4 H' → Li (Tu RI) rows (.ref pD) H' := fun x => ⟨pD, xs, rfl, x _ _ hD4, pImp (fun _ _ r => MoR.mo (R := Tu RI) x r) hP4⟩
        -- at = ..
        refine wss_mid (fun τ G4 => ∃ at2 : Nat, τ = [some (.ref pC), some (.ref pS), some v, some (.int (n : Int)), some (.int (at2 : Int)), some (.ref pD), g6, some (.int one), some (.int (m : Int))] ∧ at2 < R ∧ Ex H4 G4) ?_ fun τ G4 ⟨at2, e, ha2, x4⟩ => ?_
        · refine ws_set 4 scReed.nd (we_ifE (MT.wt (mt_cI op_gt (me_I op_mod (me_I op_fdiv (me_var 3) me_int ⟨by decide, by decide⟩) me_int (by decide)) me_int) fun H5 x5 => ?_))
          cases hb : decide ((n : Int) / 36 % 3 > 0) with
          | true =>
            refine iteT (ME.we (me_min2 B rfl (me_I0 op_sub (me_lenL B (me_is (me_var 5) (hli x5))) me_int) (me_I0 op_add (me_var 4) (me_I op_mod (me_var 8) me_int (by decide)))) fun z H6 x6 ez => ?_)
            have ez' : z = .int (if (at' : Int) + (m : Int) % 2 < (rows.length : Int) - 1 then (at' : Int) + (m : Int) % 2 else (rows.length : Int) - 1) := ez
            rw [ez', lr]
            by_cases hc : (at' : Int) + (m : Int) % 2 < (R : Int) - 1
            · rw [if_pos hc]
              refine ⟨at' + m % 2, ?_, by omega, x5.trans x6⟩
              have e : ((at' : Int) + (m : Int) % 2) = ((at' + m % 2 : Nat) : Int) := by push_cast; rfl
              exact congrArg (fun z : Int => [some (V.ref pC), some (V.ref pS), some v, some (V.int (n : Int)), some (V.int z), some (V.ref pD), g6, some (V.int one), some (V.int (m : Int))]) e
            · rw [if_neg hc]
              refine ⟨R - 1, ?_, by omega, x5.trans x6⟩
              have e : ((R : Int) - 1) = ((R - 1 : Nat) : Int) := by omega
              exact congrArg (fun z : Int => [some (V.ref pC), some (V.ref pS), some v, some (V.int (n : Int)), some (V.int z), some (V.ref pD), g6, some (V.int one), some (V.int (m : Int))]) e
          | false =>
            refine iteF (ME.we (me_I op_mod (me_var 8) (me_lenL B (me_is (me_var 5) (hli x5))) (by omega)) fun z H6 x6 ez => ?_)
            have ez' : z = .int ((m : Int) % (rows.length : Int)) := ez
            rw [ez', lr]
            refine ⟨m % R, ?_, Nat.mod_lt _ (by omega), x5.trans x6⟩
            have e : ((m : Int) % (R : Int)) = ((m % R : Nat) : Int) := by push_cast; rfl
            exact congrArg (fun z : Int => [some (V.ref pC), some (V.ref pS), some v, some (V.int (n : Int)), some (V.int z), some (V.ref pD), g6, some (V.int one), some (V.int (m : Int))]) e
        · subst e
          -- if m // 90 % 7 > 0
          refine wss_one (ws_if (MT.wt (mt_cI op_gt (me_I op_mod (me_I op_fdiv (me_var 8) me_int ⟨by decide, by decide⟩) me_int (by decide)) me_int) fun H5 x5 => ?_))
          have x45 := x4.trans x5
          have lxs : xs.length = R := (pLen hP4).trans lr
          cases hb : decide ((m : Int) / 90 % 7 > 0) with
          | true =>
            have hat : rows[at2]? = some (rows[at2]'(by omega)) := List.getElem?_eq_getElem (by omega)
            have rl : (rows[at2]'(by omega)).length ≤ 7 := Nat.le_trans (List.Sublist.length_le (inFlat (List.getElem_mem (by omega)))) fl7
            refine iteT (wss_one (ws_lset (j := at2) (P := Tu RI ((rows[at2]'(by omega)) ++ [one])) (x45 _ _ hD4) (me_var 5) (me_var 4) (me_cat (R := RI) (es' := [one]) (me_ixL (R := Tu RI) (me_is (me_var 5) (hli x45)) (me_var 4) (by rw [atNat]; exact hat)) (oneT (me_is (me_var 7) (show RI one (.int one) H5 from rfl))) (by simp; omega)) (by omega) fun z H6 x6 hz => ?_))
            have hD6 : H6 pD = some (.lst xs) := x6 _ _ (x45 _ _ hD4)
            have tk6 := tkL (u := .lst (xs.set at2 z)) hD6
            have x46 := x45.trans x6
            have L6 := L4.ex x46
            have bb : ExB (fun b => b = pS ∨ b = pD) G (upd H6 pD (.lst (xs.set at2 z))) := bG4.trans ((ExB.of x46).trans (ExB.up (.inr rfl)))
            have pm := setFlat one rows at2 (by omega)
            refine ⟨⟨g6, some (.int one), some (.int (m : Int)), k4, at2, rows.set at2 ((rows[at2]'(by omega)) ++ [one]), xs.set at2 z, rfl, bG.trans bb, ⟨by rw [upd_ne (Ne.symm dC)]; exact L6.hc, by rw [upd_ne (Ne.symm dS)]; exact L6.hs, L6.ne, L6.few⟩, by omega, by omega, upd_same, ?_, by rw [List.length_set]; exact lr, ha2, pm.nodup_iff.mpr (List.nodup_cons.mpr ⟨fresh, hnd⟩), fun x hx => ?_⟩, bb⟩
            · exact pSet (F := fun x r => Tu RI r x (upd H6 pD (.lst (xs.set at2 z)))) (Im.im (R := Tu RI) tk6 hz) at2 (pImp (fun _ _ r => Im.im (R := Tu RI) tk6 (MoR.mo (R := Tu RI) x46 r)) hP4)
            · rw [et]
              rcases List.mem_cons.mp (pm.mem_iff.mp hx) with h | h
              · exact List.mem_append_right _ (List.mem_singleton.mpr h)
              · exact List.mem_append_left _ (hsub x h)
          | false =>
            refine iteF (wss_nil ⟨⟨g6, some (.int one), some (.int (m : Int)), k4, at2, rows, xs, rfl, bG.trans (bG4.trans (ExB.of x45)), L4.ex x45, by omega, by omega, x45 _ _ hD4, pImp (fun _ _ r => MoR.mo (R := Tu RI) x45 r) hP4, lr, ha2, hnd, fun x hx => by rw [et]; exact List.mem_append_left _ (hsub x hx)⟩, bG4.trans (ExB.of x45)⟩)
      · subst e
        refine wss_one (ws_ret (ME.we (me_tuL (R := Tu RI) (ds := rows) B (me_is (me_var 5) ⟨pD, xs, rfl, hDG, hP⟩)).me fun u H4 x4 hu => ?_))
        have b0 : ExB (· = pS) H G := fun b o nd e => by
          have e1 := x2 _ _ (b1 b o nd e)
          exact bG b o (fun z => z.elim nd fun z => by
            rw [z, nD] at e1
            cases e1) (x3 _ _ e1)
        rw [List.take_length] at hsub
        exact q u H4 k' (b0.trans (ExB.of x4)) (LG.ex x4) (by omega) (by omega) ⟨rows, hu, .inr ⟨by omega, by omega, fun o hO => subGood ho.good (hnd.sublist (inFlat hO)) fun x hx => hsub x ((inFlat hO).subset hx), subGood ho.good hnd hsub⟩⟩
end
end Wk
set_option Elab.async false
set_option linter.all false
set_option maxRecDepth 100000
set_option maxHeartbeats 1000000
/-! The law's helpers: _law_threaded. -/
namespace Wk
open PySem PySem.Spec PyProof.Rows L2
theorem ix8 : ∀ {i : Nat}, i < 4 → ∃ dv : Nat, atI [(1 : Int), 2, 3, 8] (i : Int) = some (dv : Int) ∧ 0 < dv ∧ dv ≤ 8
  | 0, _ => ⟨1, by rw [atNat]; rfl, by decide, by decide⟩
  | 1, _ => ⟨2, by rw [atNat]; rfl, by decide, by decide⟩
  | 2, _ => ⟨3, by rw [atNat]; rfl, by decide, by decide⟩
  | 3, _ => ⟨8, by rw [atNat]; rfl, by decide, by decide⟩
section
variable {P : Program} {w : World} {K : PySem.W.Frag} {mg : Str → Option Value} {base : Heap}
def ThrV : Pv := fun v H => ∃ es : List Led, Tu RE es v H ∧ GoodEs es
abbrev spThr : Sp := SpL (δ := List Int) 8 (fun d => [Tu RI d]) OrdOk fun _ => ThrV
abbrev nThr : List Str := ["_law_cells", "_law_spot", "_law_order_here", "_law_n", "_law_found", "_law_eyes", "_law_one", "_law_m", "_law_shaft", "_law_eye"]
theorem scThr : FnScope nThr ["_law_cells", "_law_spot", "_law_order_here"] (defScope sLawThreaded) := ⟨rfl, rfl, rfl, by decide +kernel, rfl, by decide +kernel, by decide +kernel⟩
theorem hThr (B : Bl mg) (D : Df K mg "_law_threaded" sLawThreaded) (GC : GCell P w K mg base) : Has P w K mg base CX0 "_law_threaded" 2 ["_law_cells", "_law_spot", "_law_order_here"] spThr :=
  .mkL D scThr (fun _ _ _ _ _ _ us hl => match us, hl with | [_, _, _], _ => rfl) (fun _ => rfl) fun f cdv A outer s H us Q E d pC pS cells k hr ho ha L hk q => by
    obtain ⟨v, rfl, hv⟩ := p1 ha
    have d7 := ho.len
    have dn := ho.good.nd
    -- n, found, eyes = cell, [], [0] * 8
    refine wss_cons (ws_par3W 3 4 5 scThr.nd (wa_cons (we_callL () GC hr trivial L (by omega) (me_var 0) (me_var 1) ma_nil fun u H1 k1 b1 L1 c1 c2 ⟨n, en, hn⟩ => wa_cons ((mn_lst ma_nil moNil (Nat.zero_le _)).we fun pF H2 nF x2 hF => wa_cons ((mn_zs (n := 8) ((mn_lst (ma_cons (me_int (i := 0)) ma_nil) (moCons moNil) (by simp)).me.imp fun v H' _ h => liZero h) me_int (by decide)).we fun pE H3 nE x3 hE => wa_nil ⟨u, .ref pF, .ref pE, rfl, ?_⟩)))))
    subst en
    obtain ⟨p', xs0, e, hF2, hx0⟩ := hF
    cases e
    cases hx0
    obtain ⟨p', e, hE3⟩ := liN.mp hE
    cases e
    have hF3 := x3 _ _ hF2
    have x13 := x2.trans x3
    have L3 := L1.ex x13
    have hv1 : Tu RI d v H1 := Im.im (R := Tu RI) (L.tk b1) hv
    have hv3 := MoR.mo (R := Tu RI) x13 hv1
    have nE1 : H1 pE = none := Evl.fresh_back x2 nE
    have fS : pF ≠ pS := fun z => by
      rw [z, L1.hs] at nF
      cases nF
    have fC : pF ≠ pC := fun z => by
      rw [z, L1.hc] at nF
      cases nF
    have eS : pE ≠ pS := fun z => by
      rw [z, L1.hs] at nE1
      cases nE1
    have eC : pE ≠ pC := fun z => by
      rw [z, L1.hc] at nE1
      cases nE1
    have eF : pE ≠ pF := fun z => by
      rw [z, hF2] at nE
      cases nE
    have lst3 : ∀ b, (b = pS ∨ b = pF ∨ b = pE) → ∃ xs, H3 b = some (.lst xs) := fun b e => by
      rcases e with e | e | e
      · exact ⟨_, e ▸ L3.hs⟩
      · exact ⟨_, e ▸ hF3⟩
      · exact ⟨_, e ▸ hE3⟩
    obtain ⟨ds, hds, dsub⟩ : ∃ ds : List Int, ds = (if decide ((n : Int) % 4 > 0) = true then d else []) ∧ ds.Sublist d := ⟨_, rfl, by
      split
      · exact List.Sublist.refl _
      · exact List.nil_sublist _⟩
    have ds7 : ds.length ≤ 7 := Nat.le_trans dsub.length_le d7
    have dsn : ds.Nodup := dn.sublist dsub
    -- for one in order if n % 4 > 0 else ()
    refine wss_cons (ws_for (fun b => b = pS ∨ b = pF ∨ b = pE) (fun j σ G => ∃ (g6 g7 g8 g9 : Option V) (k' : Nat) (es : List Led) (xs : List V) (ey : List Nat), σ = [some (.ref pC), some (.ref pS), some v, some (.int (n : Int)), some (.ref pF), some (.ref pE), g6, g7, g8, g9] ∧
        ExB (fun b => b = pS ∨ b = pF ∨ b = pE) H3 G ∧ LS pC pS cells k' G ∧ k1 ≤ k' ∧ k' ≤ k1 + j ∧ G pF = some (.lst xs) ∧ Paired (fun x e => RE e x G) xs es ∧ G pE = some (lstN ey) ∧ ey.length = 8 ∧ (∀ y ∈ ey, y ≤ 2 * j) ∧ (es.map fun e : Led => e.1).Sublist (ds.take j) ∧ ∀ e ∈ es, GoodE e)
      (mi_mf (H := offD (fun b => b = pS ∨ b = pF ∨ b = pE) H3) (ds := ds) (mf_if (mt_cI op_gt (me_I op_mod (me_var 3) me_int (by decide)) me_int) (fun e => by
        rw [hds, if_pos e]
        exact mf_is (me_var 2) (Im.im (R := Tu RI) (offD_tk lst3) hv3)) fun e => by
        rw [hds, if_neg (by rw [e]; decide)]
        exact mf_nil)) offD_ex (offD_D lst3) PassesOwn.never rfl
      (fun G x => ⟨none, none, none, none, k1, [], [], zs 8, rfl, ExB.of x, L3.ex x, Nat.le_refl _, by omega, x _ _ hF3, .nil, x _ _ hE3, rfl, fun y hy => by rw [List.eq_of_mem_replicate hy]; exact Nat.zero_le _, List.nil_sublist _, fun e h => nomatch h⟩)
      (fun j y σ G G2 hj ⟨g6, g7, g8, g9, k', es, xs, ey, e, bG, LG, l1, l2, hFG, hP, hEG, le, hey, hsub, hge⟩ xG ⟨one, hone, hy⟩ => ?_) fun σ G ⟨g6, g7, g8, g9, k', es, xs, ey, e, bG, LG, l1, l2, hFG, hP, hEG, le, hey, hsub, hge⟩ => ?_)
    · subst e
      have hy' : y = .int one := hy
      subst hy'
      have oneIn : one ∈ d := dsub.subset (List.mem_of_getElem? hone)
      have et : ds.take (j + 1) = ds.take j ++ [one] := by
        rw [List.take_add_one, hone]
        rfl
      have j7 : j < 7 := by omega
      have LG2 := LG.ex xG
      refine wg_name 6 scThr.nd ?_
      -- m = cell
      refine wss_cons (ws_set 7 scThr.nd (we_callL () GC hr trivial LG2 (by omega) (me_var 0) (me_var 1) ma_nil fun u H4 k4 b4 L4 c3 c4 ⟨m, em, hm⟩ => ?_))
      subst em
      have tk4 := LG2.tk b4
      have hF4 : H4 pF = some (.lst xs) := b4 _ _ fS (xG _ _ hFG)
      have hE4 : H4 pE = some (lstN ey) := b4 _ _ eS (xG _ _ hEG)
      have hP4 : Paired (fun x e => RE e x H4) xs es := pImp (fun _ _ r => Im.im (R := RE) tk4 (MoR.mo (R := RE) xG r)) hP
      have bG4 : ExB (fun b => b = pS ∨ b = pF ∨ b = pE) G H4 := (ExB.of xG).trans (b4.sub fun b e => .inl e)
      obtain ⟨dv, hdv, dv0, dv8⟩ := ix8 (i := n / 4 % 4) (Nat.mod_lt _ (by decide))
      -- shaft = m % [..][..]
      refine wss_cons (ws_set 8 scThr.nd (ME.we (me_I op_mod (me_var 7) (me_ixL (R := RI) (ds := [1, 2, 3, 8]) (d := (dv : Int)) (i := ((n / 4 % 4 : Nat) : Int)) ((mn_lst (Ps := [RI 1, RI 2, RI 3, RI 8]) (ma_cons me_int (ma_cons me_int (ma_cons me_int (ma_cons me_int ma_nil)))) (moCons (moCons (moCons (moCons moNil)))) (by simp)).me.imp fun v H x h => LiP.li (ds := [(1 : Int), 2, 3, 8]) h)
        (ME.imp (P := Is (.int ((n : Int) / 4 % 4))) (me_I op_mod (me_I op_fdiv (me_var 3) me_int ⟨by decide, by decide⟩) me_int (by decide)) fun v H x h => by
          have e : v = V.int ((n : Int) / 4 % 4) := h
          show v = V.int ((n / 4 % 4 : Nat) : Int)
          rw [e]
          congr 1) hdv) (by omega)) fun z H5 x5 ez => ?_))
      obtain ⟨sh, hsh⟩ : ∃ sh, m % dv = sh := ⟨_, rfl⟩
      have sh8 : sh < 8 := by
        have := Nat.mod_lt m dv0
        omega
      have ez' : z = .int (sh : Int) := by
        have e : z = .int ((m : Int) % (dv : Int)) := ez
        rw [e, ← hsh]
        congr 1
      subst ez'
      have hE5 := x5 _ _ hE4
      have hat : ey[sh]? = some (ey.getD sh 0) := getD_at (by omega)
      have hy7 : ey.getD sh 0 ≤ 2 * j := hey _ (List.mem_of_getElem? hat)
      -- eye = ..
      refine wss_cons (ws_set 9 scThr.nd (ME.we (P := fun v _ => ∃ ev : Nat, v = .int (ev : Int) ∧ ev ≤ 59) (me_if (mt_cI op_gt (me_I op_mod (me_I op_fdiv (me_var 3) me_int ⟨by decide, by decide⟩) me_int (by decide)) me_int) (fun _ => (me_ixL (R := RN) (d := ey.getD sh 0) (me_is (me_var 5) (liN.mpr ⟨pE, rfl, hE5⟩)) (me_var 8) (by rw [atNat]; exact hat)).imp fun v H x h => ⟨_, h, by omega⟩)
        (fun _ => ME.imp (P := Is (.int ((m : Int) / 24 % 5))) (me_I op_mod (me_I op_fdiv (me_var 7) me_int ⟨by decide, by decide⟩) me_int (by decide)) fun v H x h => ⟨m / 24 % 5, by
          have e : v = V.int ((m : Int) / 24 % 5) := h
          rw [e]
          congr 1, by omega⟩)) fun z H6 x6 ⟨ev, ez, hev⟩ => ?_))
      subst ez
      have x56 := x5.trans x6
      have hE6 := x56 _ _ hE4
      -- eyes[shaft] = ..
      refine wss_cons (ws_lset (j := sh) (P := Is (.int ((ey.getD sh 0 + 1 + m / 120 % 2 : Nat) : Int))) hE6 (me_var 5) (me_var 8) (ME.imp (P := Is (.int (((ey.getD sh 0 : Nat) : Int) + 1 + (m : Int) / 120 % 2))) (me_I0 op_add (me_I0 op_add (me_ixL (R := RN) (d := ey.getD sh 0) (me_is (me_var 5) (liN.mpr ⟨pE, rfl, hE6⟩)) (me_var 8) (by rw [atNat]; exact hat)) me_int) (me_I op_mod (me_I op_fdiv (me_var 7) me_int ⟨by decide, by decide⟩) me_int (by decide))) fun v H x h => by
        have e : v = V.int (((ey.getD sh 0 : Nat) : Int) + 1 + (m : Int) / 120 % 2) := h
        show v = V.int _
        rw [e]
        congr 1) (by rw [List.length_map]; omega) fun z H7 x7 ez => ?_)
      have ez' : z = .int ((ey.getD sh 0 + 1 + m / 120 % 2 : Nat) : Int) := ez
      subst ez'
      rw [mapSet]
      have hE7 := x7 _ _ hE6
      have x47 := x56.trans x7
      have tk8 := tkL (u := lstN (ey.set sh (ey.getD sh 0 + 1 + m / 120 % 2))) hE7
      have b8 : ExB (fun b => b = pS ∨ b = pF ∨ b = pE) G (upd H7 pE (lstN (ey.set sh (ey.getD sh 0 + 1 + m / 120 % 2)))) := bG4.trans ((ExB.of x47).trans (ExB.up (.inr (.inr rfl))))
      have L8 : LS pC pS cells k4 (upd H7 pE (lstN (ey.set sh (ey.getD sh 0 + 1 + m / 120 % 2)))) := ⟨by rw [upd_ne (Ne.symm eC)]; exact x47 _ _ L4.hc, by rw [upd_ne (Ne.symm eS)]; exact x47 _ _ L4.hs, L4.ne, L4.few⟩
      have hF8 : upd H7 pE (lstN (ey.set sh (ey.getD sh 0 + 1 + m / 120 % 2))) pF = some (.lst xs) := by
        rw [upd_ne (Ne.symm eF)]
        exact x47 _ _ hF4
      have hP8 : Paired (fun x e => RE e x (upd H7 pE (lstN (ey.set sh (ey.getD sh 0 + 1 + m / 120 % 2))))) xs es := pImp (fun _ _ r => Im.im (R := RE) tk8 (MoR.mo (R := RE) x47 r)) hP4
      have hE8 : upd H7 pE (lstN (ey.set sh (ey.getD sh 0 + 1 + m / 120 % 2))) pE = some (lstN (ey.set sh (ey.getD sh 0 + 1 + m / 120 % 2))) := upd_same
      have hey8 : ∀ y ∈ ey.set sh (ey.getD sh 0 + 1 + m / 120 % 2), y ≤ 2 * (j + 1) := fun y hy => by
        rcases List.mem_or_eq_of_mem_set hy with h | h
        · have := hey y h
          omega
        · rw [h]
          omega
      have le8 : (ey.set sh (ey.getD sh 0 + 1 + m / 120 % 2)).length = 8 := by rw [List.length_set]; exact le
      generalize upd H7 pE (lstN (ey.set sh (ey.getD sh 0 + 1 + m / 120 % 2))) = H8 at b8 L8 hF8 hP8 hE8 ⊢
      generalize ey.set sh (ey.getD sh 0 + 1 + m / 120 % 2) = ey2 at hE8 hey8 le8
      have elen : es.length ≤ j := by
        have := hsub.length_le
        rw [List.length_map] at this
        exact Nat.le_trans this (List.length_take_le _ _)
      -- if m // 240 % 7 > 0
      refine wss_one (ws_if (MT.wt (mt_cI op_gt (me_I op_mod (me_I op_fdiv (me_var 7) me_int ⟨by decide, by decide⟩) me_int (by decide)) me_int) fun H9 x9 => ?_))
      have hF9 := x9 _ _ hF8
      cases hb : decide ((m : Int) / 240 % 7 > 0) with
      | true =>
        refine iteT (wss_one (ws_expr (we_append hF9 (me_var 4) ((mn_tup (Ps := [RI one, RI (sh : Int), RI (ev : Int)]) (ma_cons (me_is (me_var 6) (show RI one (.int one) H9 from rfl)) (ma_cons (me_is (me_var 8) (show RI (sh : Int) (.int (sh : Int)) H9 from rfl)) (ma_cons (me_is (me_var 9) (show RI (ev : Int) (.int (ev : Int)) H9 from rfl)) ma_nil))) (moCons (moCons (moCons moNil))) (by simp)).me.imp fun v H x h => (show RE (one, (sh : Int), (ev : Int)) v H from TuP.tu (ds := [one, (sh : Int), (ev : Int)]) h)) (by rw [pLen hP8]; omega) fun z H10 x10 hz => ?_)))
        have hF10 := x10 _ _ hF9
        have tk := tkL (u := .lst (xs ++ [z])) hF10
        have x810 := x9.trans x10
        have L10 := L8.ex x810
        have bb : ExB (fun b => b = pS ∨ b = pF ∨ b = pE) G (upd H10 pF (.lst (xs ++ [z]))) := b8.trans ((ExB.of x810).trans (ExB.up (.inr (.inl rfl))))
        refine ⟨⟨some (.int one), some (.int (m : Int)), some (.int (sh : Int)), some (.int (ev : Int)), k4, es ++ [(one, (sh : Int), (ev : Int))], xs ++ [z], ey2, rfl, bG.trans bb, ⟨by rw [upd_ne (Ne.symm fC)]; exact L10.hc, by rw [upd_ne (Ne.symm fS)]; exact L10.hs, L10.ne, L10.few⟩, by omega, by omega, upd_same, ?_, by rw [upd_ne eF]; exact x810 _ _ hE8, le8, hey8, ?_, fun e he => ?_⟩, bb⟩
        · exact pApp (pImp (fun _ _ r => Im.im (R := RE) tk (MoR.mo (R := RE) x810 r)) hP8) (.cons (Im.im (R := RE) tk hz) .nil)
        · rw [et, List.map_append]
          exact List.Sublist.append hsub (List.Sublist.refl _)
        · rcases List.mem_append.mp he with h | h
          · exact hge e h
          · rw [List.mem_singleton.mp h]
            have g := ho.good.thr one oneIn
            exact ⟨g, ⟨by simp only []; omega, by simp only []; omega⟩, ⟨by simp only []; omega, by simp only []; omega⟩⟩
      | false =>
        refine iteF (wss_nil ⟨⟨some (.int one), some (.int (m : Int)), some (.int (sh : Int)), some (.int (ev : Int)), k4, es, xs, ey2, rfl, bG.trans (b8.trans (ExB.of x9)), L8.ex x9, by omega, by omega, hF9, pImp (fun _ _ r => MoR.mo (R := RE) x9 r) hP8, x9 _ _ hE8, le8, hey8, ?_, hge⟩, b8.trans (ExB.of x9)⟩)
        rw [et]
        exact hsub.trans (List.sublist_append_left _ _)
    · subst e
      refine wss_one (ws_ret (ME.we (me_tuL (R := RE) (ds := es) B (me_is (me_var 4) ⟨pF, xs, rfl, hFG, hP⟩)).me fun u H4 x4 hu => ?_))
      have b0 : ExB (· = pS) H G := fun b o nd e => by
        have e1 := b1 b o nd e
        exact bG b o (fun z => z.elim nd fun z => z.elim (fun z => by
          rw [z, nF] at e1
          cases e1) fun z => by
          rw [z, nE1] at e1
          cases e1) (x13 _ _ e1)
      rw [List.take_length] at hsub
      have s2 := hsub.trans dsub
      exact q u H4 k' (b0.trans (ExB.of x4)) (LG.ex x4) (by omega) (by omega) ⟨es, hu, hge, subGood ho.good (dn.sublist s2) fun x hx => s2.subset hx⟩
end
end Wk
set_option Elab.async false
set_option linter.all false
set_option maxRecDepth 100000
set_option maxHeartbeats 1000000
/-! _law_orders, _law_told. -/
namespace Wk
open PySem PySem.Spec PyProof.Rows L2
section
variable {P : Program} {w : World} {K : PySem.W.Frag} {mg : Str → Option Value} {base : Heap}
def OrdRes (k : Kept) : Pv := fun v H => (total k ≤ 200 → RPm (ordersOf k) v H) ∧ (200 < total k → v = .non)
instance {k : Kept} : Mo (OrdRes k) := ⟨fun x ⟨a, b⟩ => ⟨fun h => Mo.mo (P := RPm (ordersOf k)) x (a h), b⟩⟩
abbrev spLO : Sp := SpD (δ := Kept) (fun d => [RKK d]) OkO OrdRes
theorem scLO : FnScope ["_law_kept_here", "_law_found"] ["_law_kept_here"] (defScope sLawOrders) := ⟨rfl, rfl, rfl, by decide +kernel, rfl, by decide +kernel, by decide +kernel⟩
theorem hLO {CT : Addr} (T : ExF K mg "TooMany" CT) (tt : PySem.W.exmOne K (.ref CT) (.ref CT) = some true) (D : Df K mg "_law_orders" sLawOrders) (G : Has P w K mg base (L2.CX P w) "orders" 9 ["kept"] (spOrders CT)) : Has P w K mg base CX0 "_law_orders" 10 ["_law_kept_here"] spLO :=
  .mkD D scLO (fun _ _ _ _ _ _ us hl => match us, hl with | [_], _ => rfl) (fun _ => rfl) fun f cdv A outer s H vs Q E d hr ho ha q => by
    obtain ⟨v, rfl, h1⟩ := p1 ha
    refine wss_cons (ws_set 1 scLO.nd (me_non.we fun u H1 x1 eu => ?_))
    have eu' : u = .non := eu
    subst eu'
    -- try
    refine wss_mid (fun τ G => ∃ u, τ = [some v, some u] ∧ Ex H G ∧ OrdRes d u G) ?_ fun τ G ⟨u, e, x, r⟩ => ?_
    · refine ws_try (.plain (ts := sM _ _) ⟨rfl, by decide, .inl T.gC⟩ sMok .nil) fun pn xe tk po => ?_
      refine wss_one (ws_set 1 scLO.nd (we_callX G hr tk (wa_one ((me_var 0).we fun z H2 x2 ez => ?_))))
      have ez' : z = v := ez
      subst ez'
      have x12 := x1.trans x2
      refine ⟨z, d, rfl, MoR.mo (R := RKK) x12 h1, ho, fun hb u H3 x3 r => ⟨u, rfl, x12.trans x3, fun _ => r, fun h => absurd h (by omega)⟩, fun hb H3 x3 => ⟨true, tt, fun _ a na oe pn hz hf => ?_, fun z => nomatch z⟩⟩
      exact wss_one (ws_set 1 scLO.nd (me_non.we fun u H4 x4 eu => ⟨u, rfl, x12.trans (x3.trans x4), fun h => absurd h (by omega), fun _ => eu⟩))
    · subst e
      exact wss_one (ws_ret ((me_var 1).we fun z H2 x2 ez => by
        have ez' : z = u := ez
        subst ez'
        exact q z H2 (x.trans x2) (Mo.mo (P := OrdRes d) x2 r)))
/-! ### _law_told -/
def ToldV (d : DP) : Pv := fun v H => (∀ p, placesN d.order d.t d.k d.rows d.es = [p] → Tu RI (putAt' d.order d.t p) v H) ∧ ((placesN d.order d.t d.k d.rows d.es).length ≠ 1 → Li RI d.res v H)
instance {d : DP} : Mo (ToldV d) := ⟨fun x ⟨a, b⟩ => ⟨fun p h => MoR.mo (R := Tu RI) x (a p h), fun h => MoR.mo (R := Li RI) x (b h)⟩⟩
abbrev spLT : Sp := SpD (δ := DP) DP.args GoodP ToldV
abbrev nLT : List Str := ["_law_others", "_law_thread", "_law_kept_here", "_law_dents", "_law_eyes", "_law_found", "error"]
theorem scLT : FnScope nLT ["_law_others", "_law_thread", "_law_kept_here", "_law_dents", "_law_eyes"] (defScope sLawTold) := ⟨rfl, rfl, rfl, by decide +kernel, rfl, by decide +kernel, by decide +kernel⟩
theorem hLT {CF CN : Addr} (B : Bl mg) (T : ExF K mg "NoneFits" CF) (N : NsC K mg CN) (t1 : PySem.W.exmOne K (.ref CF) (.ref CF) = some true) (t2 : PySem.W.exmOne K (.ref CN) (.ref CF) = some false) (t3 : PySem.W.exmOne K (.ref CN) (.ref CN) = some true) (D : Df K mg "_law_told" sLawTold)
    (G : Has P w K mg base (L2.CX P w) "tied" 10 ["order", "thread", "new", "kept", "reeded", "threaded"] (spTied CF CN)) : Has P w K mg base CX0 "_law_told" 11 ["_law_others", "_law_thread", "_law_kept_here", "_law_dents", "_law_eyes"] spLT :=
  .mkD D scLT (fun _ _ _ _ _ _ us hl => match us, hl with | [_, _, _, _, _], _ => rfl) (fun _ => rfl) fun f cdv A outer s H vs Q E d hr ho ha q => by
    obtain ⟨vo, vt, vk, vr, ve, rfl, h1, h2, h3, h4, h5⟩ := p5 ha
    have h2' : vt = .int d.t := h2
    subst h2'
    refine wss_cons (ws_set 5 scLT.nd (me_non.we fun u H1 x1 eu => ?_))
    have eu' : u = .non := eu
    subst eu'
    -- try
    refine wss_mid (fun τ G => ∃ u g, τ = [some vo, some (.int d.t), some vk, some vr, some ve, some u, g] ∧ Ex H G ∧ ToldV d u G) ?_ fun τ G ⟨u, g, e, x, r⟩ => ?_
    · refine ws_try (.plain (ts := sM _ _) ⟨rfl, by decide, .inl T.gC⟩ sMok (.named (ts := sM _ _) (i := 6) scLT.nd rfl rfl ⟨rfl, by decide, .inl N.gC⟩ sMok .nil)) fun pn xe tk po => ?_
      refine wss_one (ws_set 5 scLT.nd (we_ix (k := 0) (we_callX G hr tk ((ma_cons (me_is (me_var 0) (MoR.mo (R := Tu RI) x1 h1)) (ma_cons (me_var 1) (ma_cons (me_var 1) (ma_cons (me_is (me_var 2) (Im.im (R := RK) (tkEx x1) h3)) (ma_cons (me_is (me_var 3) (MoR.mo (R := Tu (Tu RI)) x1 h4)) (ma_cons (me_is (me_var 4) (MoR.mo (R := Tu RE) x1 h5)) ma_nil)))))) H1 (exr H1) _ fun vs H2 x2 ps => ?_))))
      cases ps with
      | @cons v1 _ _ _ r1 ps =>
        obtain ⟨v2, v3, v4, v5, v6, rfl, r2, r3, r4, r5, r6⟩ := p5 ps
        have x12 := x1.trans x2
        refine ⟨d, v1, v2, v3, v4, v5, v6, rfl, ho, r1, r2, r3, r4, r5, r6, fun p hp a H3 x3 r => ?_, fun he H3 x3 => ?_, fun h2 y dx H3 x3 hy hdx => ?_⟩
        · obtain ⟨a', xs, e, ht, hps⟩ := r
          cases e
          obtain ⟨z1, z2, z3, z4, rfl, hz, _, _, _⟩ := p4 hps
          refine ⟨a, _, z1, rfl, .inl ht, by rw [atNat]; rfl, z1, none, rfl, x12.trans x3, fun p' hp' => ?_, fun hl => ?_⟩
          · rw [hp] at hp'
            cases hp'
            exact hz
          · rw [hp] at hl
            exact absurd rfl hl
        · refine ⟨true, t1, fun _ a na oe pn hz hf => ?_, fun z => nomatch z⟩
          refine wss_one (ws_set 5 scLT.nd ((mn_lst ma_nil moNil (Nat.zero_le _)).we fun l H4 nl x4 hl => ⟨.ref l, none, rfl, x12.trans (x3.trans x4), fun p hp => ?_, fun _ => ?_⟩))
          · rw [he] at hp
            cases hp
          · have e : d.res = [] := by
              unfold DP.res placesIn
              rw [he]
              rfl
            rw [e]
            exact LiP.li (ds := ([] : List Int)) hl
        · refine ⟨false, t2, fun z => (nomatch z), fun _ => ⟨true, t3, fun _ a na oe pn hz hf => ?_, fun z => nomatch z⟩⟩
          have hd3 : H3 dx = some (.xd [(("places" : Str), y)]) := hdx
          refine wss_one (ws_set 5 scLT.nd ((me_liT (R := RI) (ds := d.res) B (fun H4 x4 Q4 q4 => .of (pe_xf (C := CN) N.xf N.no hz hf pe_we) ((me_var 6 (v := .ref a)) H4 x4 _ fun z H5 x5 ez => ⟨ez, rfl, dx, _, y, rfl, (x4.trans x5) _ _ hd3, rfl, q4 y H5 x5 (MoR.mo (R := Tu RI) (x4.trans x5) hy)⟩))).me.we fun l H6 x6 hl => ⟨l, none, rfl, x12.trans (x3.trans x6), fun p hp => ?_, fun _ => hl⟩))
          rw [hp] at h2
          exact absurd h2 (by simp)
    · subst e
      exact wss_one (ws_ret ((me_var 5).we fun z H2 x2 ez => by
        have ez' : z = u := ez
        subst ez'
        exact q z H2 (x.trans x2) (Mo.mo (P := ToldV d) x2 r)))
end
end Wk
set_option Elab.async false
set_option linter.all false
set_option maxRecDepth 100000
set_option maxHeartbeats 1000000
/-! _law_kept_right. -/
namespace Wk
open PySem PySem.Spec PyProof.Rows L2
theorem roomU65 {k : Nat} {A : Around} (h : Room k A) : A.units + 65 < cLine := by
  have := h.un
  omega
theorem decAny {p : Prop} (i j : Decidable p) : @decide p i = @decide p j := by
  cases i <;> cases j <;> first | rfl | contradiction
structure KR where
  o : List Int
  t : Int
  k : Kept
structure OkKR (d : KR) : Prop where
  gp : GoodP ⟨d.o, d.t, d.k, [], []⟩
  ok : OkO d.k
  pm : (d.t :: d.o).Perm d.k.threads
theorem toldPerm {k : Kept} (g : GoodK k) {w : List Int} (h : toldOf k = some w) : w.Perm k.threads := by
  unfold toldOf at h
  by_cases h1 : total k = 1
  · rw [if_pos h1] at h
    exact firstPerm g ((onlyFirst h1).mpr (Option.some.inj h).symm)
  · rw [if_neg h1] at h
    cases h
theorem wholeFit {d : KR} (ok : OkKR d) {rs : List (List Int)} (p : rs.Perm (ordersOf d.k)) : ∀ e ∈ numbered ((List.range (d.o.length + 1)).map (putAt' d.o d.t)), decide (e.2 ∈ rs) = fitsB e.2 d.k := fun e he => by
  rw [numRange] at he
  obtain ⟨i, _, rfl⟩ := List.mem_map.mp he
  rw [Bool.eq_iff_iff, decide_eq_true_iff, p.mem_iff, ordersFit ok.ok.good ((putPerm _ _ _).trans ok.pm)]
section
variable {P : Program} {w : World} {K : PySem.W.Frag} {mg : Str → Option Value} {base : Heap}
abbrev spKR : Sp := SpD (δ := KR) (fun d => [Tu RI d.o, Is (.int d.t), RKK d.k]) OkKR fun _ => Is (.bl true)
abbrev nKR : List Str := ["_law_others", "_law_thread", "_law_kept_here", "_law_found", "_law_wholes", "_law_at", "_law_whole", "_law_some", "_law_one", "_law_other"]
theorem scKR : FnScope nKR ["_law_others", "_law_thread", "_law_kept_here"] (defScope sLawKeptRight) := ⟨rfl, rfl, rfl, by decide +kernel, rfl, by decide +kernel, by decide +kernel⟩
theorem hKR (B : Bl mg) (D : Df K mg "_law_kept_right" sLawKeptRight) (G1 : Has P w K mg base CX0 "places" 10 ["order", "thread", "kept", "reeded", "threaded"] spPlaces) (G2 : Has P w K mg base CX0 "fits" 8 ["order", "kept"] spFits) (G3 : Has P w K mg base CX0 "_law_orders" 10 ["_law_kept_here"] spLO) (G4 : Has P w K mg base CX0 "told_order" 9 ["kept"] spTold) :
    Has P w K mg base CX0 "_law_kept_right" 11 ["_law_others", "_law_thread", "_law_kept_here"] spKR :=
  .mkD D scKR (fun _ _ _ _ _ _ us hl => match us, hl with | [_, _, _], _ => rfl) (fun _ => rfl) fun f cdv A outer s H vs Q E d hr ho ha q => by
    obtain ⟨vo, vt, vk, rfl, h1, h2, h3⟩ := p3 ha
    have h2' : vt = .int d.t := h2
    subst h2'
    have gp := ho.gp
    have g := ho.ok.good
    have tIn : d.t ∈ d.k.threads := ho.pm.mem_iff.mp List.mem_cons_self
    have o60 : d.o.length < 60 := gp.room
    have fres : DP.res ⟨d.o, d.t, d.k, [], []⟩ = (holes d.o d.t d.k).map fun p : Nat => (p : Int) := by
      unfold DP.res placesIn
      rw [keptOnly tIn]
    -- found = places(..)
    refine wss_cons (ws_set 3 scKR.nd (MN.we (mn_callD (⟨d.o, d.t, d.k, [], []⟩ : DP) G1 (hr.mono (by decide)) gp (ma_cons (me_is (me_var 0) h1) (ma_cons (me_var 1) (ma_cons (me_is (me_var 2) h3.rk) (ma_cons emptyT (ma_cons emptyT ma_nil))))) (P' := Li RI ((holes d.o d.t d.k).map fun p : Nat => (p : Int))) (hP := fun v H h => by rw [← fres]; exact h)) fun pF H1 nF x1 hF => ?_))
    have h11 := MoR.mo (R := Tu RI) x1 h1
    -- wholes = [..]
    refine wss_cons (ws_n0 (R := RN) (S := Tu RI) (j := 4) (ds := List.range (d.o.length + 1)) 5 ((mi_range B.range (me_I0 op_add (me_lenT B (me_is (me_var 0) h11)) me_int) (by omega) (by omega)).conv (by rw [List.length_range]; omega) fun i v H hi y => ⟨i, List.getElem?_range (by rw [List.length_range] at hi; exact hi), y⟩) (putAt' d.o d.t) (small1000 (by rw [List.length_range]; omega)) (fun p y H3 hp x3 r => ?_) (fun pW H2 nW x2 hW => ?_) scKR.nd
      (blkOk_by (N := nKR) (sc := defScope sLawKeptRight) (by decide +kernel)))
    · have r' : y = .int (p : Int) := r
      subst r'
      have h13 := MoR.mo (R := Tu RI) x3 h11
      have la : (d.o.take p).length ≤ 60 := Nat.le_trans (List.length_take_le' _ _) (by omega)
      have lb : (d.o.drop p).length ≤ 60 := by
        rw [List.length_drop]
        omega
      intro _ _ _ _ _
      exact me_cat (me_cat (me_take (k := p) (me_is (me_var 0) h13) (me_var 5)) (oneT (me_is (me_var 1) (show RI d.t (.int d.t) H3 from rfl))) (by simp; omega)) (me_drop (k := p) (me_is (me_var 0) h13) (me_var 5)) (by simp; omega)
    have x12 := x1.trans x2
    have hF2 := MoR.mo (R := Li RI) x2 hF
    have h32 := MoR.mo (R := RKK) x12 h3
    have lenW : (numbered ((List.range (d.o.length + 1)).map (putAt' d.o d.t))).length ≤ 1000 := by
      rw [numLen, List.length_map, List.length_range]
      omega
    -- if found != [.. fits ..]
    refine wss_cons (ws_if (MT.wt (k := false) (MT.is (mt_neD encL hr.units (me_is (me_var 3) hF2) (mn_p1 (R := Pr RI (Tu RI)) (S := RI) 5 6 (fun d u w H => RI d.1 u H ∧ Tu RI d.2 w H) (mi_enumL (R := Tu RI) B.enum (me_var 4) hW) (fun e _ => prPr e) (fun e => fitsB e.2 d.k) (fun e => e.1) (small1000 lenW) (by decide) (fun e u z H3 he x3 hY => ⟨?_, fun _ => ?_⟩) scKR.nd (blkOk_by (N := nKR) (sc := defScope sLawKeptRight) (by decide +kernel))).me) ?_) fun H3 x3 => iteF (wss_nil ?_)))
    · rw [numRange] at he
      obtain ⟨i, _, rfl⟩ := List.mem_map.mp he
      intro _ _ _ _ _
      exact mt_val (me_callD (putAt' d.o d.t i, d.k) G2 (hr.mono (by decide)) ⟨goodPut gp.ord gp.room gp.t0 gp.no i, g⟩ (ma_cons (me_is (me_var 6) hY.2) (ma_cons (me_is (me_var 2) (MoR.mo (R := RKK) x3 h32).rk) ma_nil)))
    · intro _ _ _ _ _
      exact me_is (me_var 5) hY.1
    · rw [numFilter (putAt' d.o d.t) (d.o.length + 1) (fun x => fitsB x d.k)]
      have e : ((List.range (d.o.length + 1)).filter fun i => fitsB (putAt' d.o d.t i) d.k) = holes d.o d.t d.k := rfl
      rw [e, decide_eq_true rfl]
      rfl
    have x13 := x12.trans x3
    have hF3 := MoR.mo (R := Li RI) x3 hF2
    have hW3 := MoR.mo (R := Li (Tu RI)) x3 hW
    -- some = _law_orders(kept)
    refine wss_cons (ws_set 7 scKR.nd (ME.we (me_callD d.k G3 hr ho.ok (ma_cons (me_is (me_var 2) (MoR.mo (R := RKK) x3 h32)) ma_nil)) fun u H4 x4 hu => ?_))
    have hF4 := MoR.mo (R := Li RI) x4 hF3
    have hW4 := MoR.mo (R := Li (Tu RI)) x4 hW3
    have x14 := x13.trans x4
    -- if some is not None and ..
    refine wss_mid (fun τ G => τ = [some vo, some (.int d.t), some vk, some (.ref pF), some (.ref pW), none, none, some u, none, none] ∧ Ex H4 G) ?_ fun τ G ⟨e, x5⟩ => ?_
    · by_cases few : total d.k ≤ 200
      · obtain ⟨rs, pm, hrs⟩ := hu.1 few
        obtain ⟨pR, xsR, eR, hR1, hR2⟩ := hrs
        have hrs : Li (Tu RI) rs u H4 := ⟨pR, xsR, eR, hR1, hR2⟩
        refine ws_if (MT.wt (k := false) (MT.is (MW.mt (mw_and (k := true) (MT.is (mt_notN (me_var 7)) (by rw [eR]; rfl)) fun _ => mw_and1 (mt_neD encL hr.units (me_is (me_var 3) hF4) (mn_p1 (R := Pr RI (Tu RI)) (S := RI) 5 6 (fun d u w H => RI d.1 u H ∧ Tu RI d.2 w H) (mi_enumL (R := Tu RI) B.enum (me_var 4) hW4) (fun e _ => prPr e) (fun e => decide (e.2 ∈ rs)) (fun e => e.1) (small1000 lenW) (by decide) (fun e u' z H5 he x5 hY => ⟨?_, fun _ => ?_⟩) scKR.nd (blkOk_by (N := nKR) (sc := defScope sLawKeptRight) (by decide +kernel))).me))) ?_) fun H5 x5 => iteF (wss_nil ⟨rfl, x5⟩))
        · intro _ _ _ _ _
          exact (mt_inD (d := e.2) (ds := rs) encT (roomU65 hr) (me_is (me_var 6) hY.2) (me_is (me_var 7) (MoR.mo (R := Li (Tu RI)) x5 hrs))).is (decAny _ _)
        · intro _ _ _ _ _
          exact me_is (me_var 5) hY.1
        · have e : ((numbered ((List.range (d.o.length + 1)).map (putAt' d.o d.t))).filter fun e => decide (e.2 ∈ rs)) = (numbered ((List.range (d.o.length + 1)).map (putAt' d.o d.t))).filter fun e => fitsB e.2 d.k := List.filter_congr (wholeFit ho pm)
          rw [e, numFilter (putAt' d.o d.t) (d.o.length + 1) (fun x => fitsB x d.k)]
          have e : ((List.range (d.o.length + 1)).filter fun i => fitsB (putAt' d.o d.t i) d.k) = holes d.o d.t d.k := rfl
          rw [e, decide_eq_true rfl]
          rfl
      · have un : u = .non := hu.2 (by omega)
        refine ws_if (MT.wt (k := false) (MT.is (MW.mt (mw_and (k := false) (j := false) (MT.is (mt_notN (me_var 7)) (by rw [un]; rfl)) fun e => nomatch e)) rfl) fun H5 x5 => iteF (wss_nil ⟨rfl, x5⟩))
    · subst e
      have x15 := x14.trans x5
      -- one = told_order(kept)
      refine wss_cons (ws_set 8 scKR.nd (ME.we (me_callD d.k G4 (hr.mono (by decide)) ho.ok (ma_cons (me_is (me_var 2) (MoR.mo (R := RKK) x15 h3)) ma_nil)) fun one H6 x6 hone => ?_))
      have x16 := x15.trans x6
      have hF6 := MoR.mo (R := Li RI) (x5.trans x6) hF4
      have h16 := MoR.mo (R := Tu RI) x16 h1
      cases ht : toldOf d.k with
      | none =>
        rw [ht] at hone
        have en : one = .non := hone
        subst en
        refine wss_cons (ws_if (MT.wt (k := false) (MT.is (MW.mt (mw_and (k := false) (j := false) (MT.is (mt_notN (me_var 8)) rfl) fun e => nomatch e)) rfl) fun H7 x7 => iteF (wss_nil ?_)))
        refine wss_one (ws_ret (ME.we (me_or (k := true) (j := true) ((me_isN (me_var 8 (v := .non))).imp fun v H x h => by
          have e : v = V.bl (decide (V.non = V.non)) := h
          rw [decide_eq_true rfl] at e
          exact e) fun e => nomatch e) fun z H8 x8 ez => q z H8 (x16.trans (x7.trans x8)) ez))
      | some wl =>
        rw [ht] at hone
        have hone : TuK wl one H6 := hone
        have pw := toldPerm g ht
        have l60 : wl.length ≤ 60 := by
          rw [pw.length_eq]
          exact g.thr.len
        obtain ⟨tw, hh⟩ := toldHoles g ho.pm ht
        have nn : decide (one = .non) = false := by
          obtain ⟨a, o, e, _⟩ := hone
          rw [e]
          rfl
        refine wss_cons (ws_if (MT.wt (k := decide (wl.filter (fun x => !decide (x = d.t)) = d.o)) (MT.is (MW.mt (mw_and (k := true) (MT.is (mt_notN (me_var 8)) (by rw [nn]; rfl)) fun _ => mw_and1 (mt_eqD encT hr.units (me_tuL (R := RI) B (mn_n1 (R := RI) (S := RI) 9 (mi_tup (me_var 8) hone.tu) (fun x => !decide (x = d.t)) (fun x => x) (small1000 (by omega)) (fun x y H7 hx x7 r => ⟨?_, fun _ => ?_⟩) scKR.nd (blkOk_by (N := nKR) (sc := defScope sLawKeptRight) (by decide +kernel))).me).me (me_is (me_var 0) h16)))) ?_) fun H7 x7 => ?_))
        · have r' : y = .int x := r
          subst r'
          intro _ _ _ _ _
          refine (mt_neS (me_var 9) (me_var 1)).is ?_
          congr 1
          rw [Bool.eq_iff_iff, decide_eq_true_iff, decide_eq_true_iff]
          exact ⟨fun z => V.int.inj z, fun z => by rw [z]⟩
        · intro _ _ _ _ _
          exact me_is (me_var 9) r
        · rw [mapSelf, Bool.true_and]
        · have hF7 := MoR.mo (R := Li RI) x7 hF6
          by_cases hf : wl.filter (fun x => !decide (x = d.t)) = d.o
          · rw [decide_eq_true hf]
            rw [if_pos hf] at hh
            refine iteT (wss_one (ws_ret (ME.we (me_eqD (d := (holes d.o d.t d.k).map fun p : Nat => (p : Int)) (d' := [((wl.idxOf d.t : Nat) : Int)]) encL hr.units (me_is (me_var 3) hF7) ((mn_lst (Ps := [RI ((wl.idxOf d.t : Nat) : Int)]) (ma_cons (me_idxK (me_is (me_var 8) (MoR.mo (R := TuK) x7 hone)) (me_var 1) tw) ma_nil) (moCons moNil) (by simp)).me.imp fun v H x h => LiP.li (ds := [((wl.idxOf d.t : Nat) : Int)]) h)) fun z H8 x8 ez => q z H8 (x16.trans (x7.trans x8)) ?_)))
            have ez' : z = _ := ez
            rw [ez', hh]
            exact congrArg V.bl (decide_eq_true rfl)
          · rw [decide_eq_false hf]
            rw [if_neg hf] at hh
            refine iteF (wss_nil ?_)
            refine wss_one (ws_ret (ME.we (me_or (k := false) (j := true) ((me_isN (me_var 8)).imp fun v H x h => by rw [nn] at h; exact h) fun _ => me_one ((me_eqD (d := (holes d.o d.t d.k).map fun p : Nat => (p : Int)) (d' := []) encL hr.units (me_is (me_var 3) hF7) ((mn_lst ma_nil moNil (Nat.zero_le _)).me.imp fun v H x h => LiP.li (ds := ([] : List Int)) h)).imp fun v H x h => by
              have e : v = _ := h
              show v = V.bl true
              rw [e, hh]
              exact congrArg V.bl (decide_eq_true rfl))) fun z H8 x8 ez => q z H8 (x16.trans (x7.trans x8)) ez))
end
end Wk
set_option Elab.async false
set_option linter.all false
set_option maxRecDepth 100000
set_option maxHeartbeats 4000000
/-! law. -/
namespace Wk
open PySem PySem.Spec PyProof.Rows L2
theorem pickPerm {o : List Int} {i : Nat} (h : i < o.length) : (o[i] :: (o.take i ++ o.drop (i + 1))).Perm o := by
  have e : o = o.take i ++ o[i] :: o.drop (i + 1) := by
    conv => lhs; rw [← List.take_append_drop i o, List.drop_eq_getElem_cons h]
  conv => rhs; rw [e]
  exact List.perm_middle.symm
theorem liIN {ns : List Nat} {v : V} {H : Hp} (h : Li RI (ns.map fun n : Nat => (n : Int)) v H) : Li RN ns v H := by
  obtain ⟨p, e, h⟩ := liI.mp h
  refine liN.mpr ⟨p, e, ?_⟩
  rw [h, List.map_map]
  rfl
theorem memCast {p : Nat} {l : List Nat} : decide ((p : Int) ∈ l.map fun n : Nat => (n : Int)) = decide (p ∈ l) := by
  rw [Bool.eq_iff_iff, decide_eq_true_iff, decide_eq_true_iff, List.mem_map]
  exact ⟨fun ⟨n, h, e⟩ => by
    have : n = p := by omega
    rw [← this]
    exact h, fun h => ⟨p, h, rfl⟩⟩
section
variable {X : Cx} {tg iter : Expr} {σ : L2.St} {H : Hp} {ns : List Int} {a : Addr}
theorem mi_sql (h : ME X iter σ H (Is (.ref a))) (hs : SqL X.K H a (ns.map V.int)) : MI X tg iter σ H ns.length (At RI ns) := fun H1 x1 Q q => by
  refine .of (pi_list pe_we) (h H1 x1 _ fun u H2 x2 p => ?_)
  have e : u = V.ref a := p
  subst e
  refine ⟨a, rfl, ⟨_, Evl.ex_l (x1.trans x2) hs⟩, q _ H2 (Ex H) x2 (x1.trans x2) holdsBase ⟨fun i H3 g hi => ?_, fun i H3 x H' g hi y => ?_, fun i H3 g hi => ⟨_, Evl.ex_l g hs, by rw [List.length_map]; exact hi⟩⟩⟩
  · have hx : i < (ns.map V.int).length := by rw [List.length_map]; exact hi
    exact ⟨_, (ns.map V.int)[i], Evl.ex_l g hs, List.getElem?_eq_getElem hx⟩
  · obtain ⟨e1, y⟩ := y
    subst e1
    have g1 := y _ (Evl.ex_l g hs)
    rw [List.getElem?_map, List.getElem?_eq_getElem hi] at g1
    cases g1
    exact ⟨exr _, ns[i], List.getElem?_eq_getElem hi, rfl⟩
end
theorem RKK.keep {k : Kept} {v : V} {H H' : Hp} {pC pS : Addr} {cells : List Int} {n : Nat} (h : RKK k v H) (L : LS pC pS cells n H) (x : ExB (· = pS) H H') : RKK k v H' := by
  obtain ⟨a, u, y, z, h1, h2, ⟨c, o, e, hd, hc⟩, h4, h5⟩ := h
  have tk := L.tk x
  refine ⟨a, u, y, z, h1, tk _ _ h2, ⟨c, o, e, hd, x _ _ (fun w => ?_) hc⟩, Im.im (R := Tu (Tu (Tu RI))) tk h4, Im.im (R := Tu (Tu RI)) tk h5⟩
  have w' : c = pS := w
  rw [w', L.hs] at hc
  cases hc
theorem liNe {ns : List Int} {v v0 : V} {q pM c : Addr} {xs : List V} {H : Hp} (h : Li RI ns (.ref q) H) (hM : H pM = some (.lst (.ref c :: xs))) : q ≠ pM := fun z => by
  obtain ⟨p, e, h⟩ := liI.mp h
  cases e
  rw [z, hM] at h
  have e := HO.lst.inj (Option.some.inj h)
  cases ns with
  | nil => cases e
  | cons n ns =>
    rw [List.map_cons] at e
    cases (List.cons.inj e).1
theorem liUp {ns : List Int} {q pM : Addr} {u : HO} {H : Hp} (h : Li RI ns (.ref q) H) (n : q ≠ pM) : Li RI ns (.ref q) (upd H pM u) := by
  obtain ⟨p, e, h⟩ := liI.mp h
  cases e
  exact liI.mpr ⟨q, rfl, by rw [upd_ne n]; exact h⟩
section
variable {P : Program} {w : World} {K : PySem.W.Frag} {mg : Str → Option Value} {base : Heap}
def spLaw (K : PySem.W.Frag) : Sp := fun vs H Q _ => ∃ (a : Addr) (ns : List Int), vs = [.ref a] ∧ ns.length ≤ 63 ∧ SqL K H a (ns.map V.int) ∧ ∀ H', Q (.bl true) H'
abbrev nLaw : List Str := ["_law_script", "_law_cells", "_law_cell_here", "_law_spot", "_law_turn", "_law_n", "_law_order_here", "_law_at", "_law_thread", "_law_others", "_law_kept_here", "_law_dents", "_law_eyes", "_law_bare", "_law_some", "_law_due", "_law_spot_at", "_law_whole"]
theorem scLaw : FnScope nLaw ["_law_script"] (defScope sLaw) := ⟨rfl, rfl, rfl, by decide +kernel, rfl, by decide +kernel, by decide +kernel⟩
theorem lawBody (B : Bl mg) (GC : GCell P w K mg base) (GO : Has P w K mg base CX0 "_law_order" 2 ["_law_cells", "_law_spot", "_law_many"] spOrd) (GK : Has P w K mg base CX0 "_law_kept" 3 ["_law_cells", "_law_spot", "_law_order_here"] spLK)
    (GR : Has P w K mg base CX0 "_law_reeded" 2 ["_law_cells", "_law_spot", "_law_order_here"] spReed) (GT : Has P w K mg base CX0 "_law_threaded" 2 ["_law_cells", "_law_spot", "_law_order_here"] spThr) (GW : Has P w K mg base CX0 "kept_without" 8 ["kept", "thread"] spWithout)
    (GP : Has P w K mg base CX0 "places" 10 ["order", "thread", "kept", "reeded", "threaded"] spPlaces) (GKR : Has P w K mg base CX0 "_law_kept_right" 11 ["_law_others", "_law_thread", "_law_kept_here"] spKR) (GLT : Has P w K mg base CX0 "_law_told" 11 ["_law_others", "_law_thread", "_law_kept_here", "_law_dents", "_law_eyes"] spLT) :
    ∀ (f : Addr) (cdv : Value) (A : Around) (outer : List Env) (s : Shared) (H : Hp) (vs : List V) (Q : VK) (E : XK), Room 11 (A.deeper (envOfC "law" (defScope sLaw) s.heap.objs.size f cdv)) → spLaw K vs H Q E →
      WSs (cx0 P w K mg base nLaw "law" sLaw f cdv A outer s H E) (defBody sLaw) { nx := fun _ H' => Q .non H', rt := Q } (start nLaw vs) H := fun f cdv A outer s H vs Q E hr h => by
    obtain ⟨a, ns, rfl, few, hS, q⟩ := h
    -- cells, spot = [..], [0]
    refine wss_cons (ws_parW 1 3 scLaw.nd (wa_cons (MN.we (mn_n0 (R := RI) (S := RI) 2 (mi_sql (me_var 0) hS) (fun n => n) (small1000 (by omega)) (fun n y H3 hn x3 r => ?_) scLaw.nd (blkOk_by (N := nLaw) (sc := defScope sLaw) (by decide +kernel))) fun pC H1 nC x1 hC =>
      wa_cons ((mn_lst (Ps := [Is (.int 0)]) (ma_cons me_int ma_nil) (moCons moNil) (by simp)).we fun pS H2 nS x2 hs => wa_nil ⟨.ref pC, .ref pS, rfl, ?_⟩))))
    · intro _ _ _ _ _
      exact me_is (me_var 2) r
    rw [mapSelf] at hC
    obtain ⟨pC', e, hC1⟩ := liI.mp hC
    cases e
    obtain ⟨pS', e, hS2⟩ := liN.mp (liZero hs)
    cases e
    have L2 : LS pC pS ns 0 H2 := ⟨x2 _ _ hC1, hS2, (fun z => by
      rw [← z, hC1] at nS
      cases nS), few⟩
    -- for turn in range(..)
    have hCo : Li RI ns (.ref pC) (offS pS H2) := liI.mpr ⟨pC, rfl, by rw [offS_ne L2.ne]; exact L2.hc⟩
    have m8 : (if ((ns.length : Nat) : Int) < 8 then ((ns.length : Nat) : Int) else 8) ≤ 8 := by
      split <;> omega
    have m0 : 0 ≤ (if ((ns.length : Nat) : Int) < 8 then ((ns.length : Nat) : Int) else 8) := by
      split <;> omega
    generalize hm : (if ((ns.length : Nat) : Int) < 8 then ((ns.length : Nat) : Int) else 8) = mm at m8 m0
    refine wss_cons (ws_for (· = pS) (fun i σ G => ∃ (g4 g5 g6 g7 g8 g9 g10 g11 g12 g13 g14 g15 g16 g17 : Option V) (k : Nat), σ = [some (.ref a), some (.ref pC), none, some (.ref pS), g4, g5, g6, g7, g8, g9, g10, g11, g12, g13, g14, g15, g16, g17] ∧ ExB (· = pS) H2 G ∧ LS pC pS ns k G ∧ k ≤ 78 * i)
      (mi_range (H := offS pS H2) (j := 2 + mm) B.range (me_I0 op_add me_int (ME.imp (P := Is (.int (if ((ns.length : Nat) : Int) < 8 then ((ns.length : Nat) : Int) else 8))) (me_min2 B rfl me_int (me_lenL B (me_is (me_var 1) hCo))) fun v H x h => by rw [hm] at h; exact h)) (by omega) (by omega)) offS_ex L2.off PassesOwn.never rfl
      (fun G x => ⟨none, none, none, none, none, none, none, none, none, none, none, none, none, none, 0, rfl, ExB.of x, L2.ex x, Nat.le_refl _⟩)
      (fun i u σ G G2 hi ⟨g4, g5, g6, g7, g8, g9, g10, g11, g12, g13, g14, g15, g16, g17, k0, e, bG, LG, kb⟩ xG hu => ?_) fun σ G ⟨g4, g5, g6, g7, g8, g9, g10, g11, g12, g13, g14, g15, g16, g17, k0, e, bG, LG, kb⟩ => ?_)
    · subst e
      subst hu
      have i10 : i < 10 := by omega
      have LG2 := LG.ex xG
      refine wg_name 4 scLaw.nd ?_
      -- n = cell
      refine wss_cons (ws_set 5 scLaw.nd (we_callL () GC (hr.mono (by decide)) trivial LG2 (by omega) (me_var 1) (me_var 3) ma_nil fun u H3 k3 b3 L3 c3 d3 ⟨n, en, hn⟩ => ?_))
      subst en
      -- order = _law_order(.., 1 + n % 7)
      refine wss_cons (ws_set 6 scLaw.nd (we_callL (1 + n % 7) GO (hr.mono (by decide)) (show 1 + n % 7 ≤ 7 by omega) L3 (by omega) (me_var 1) (me_var 3) (ma_cons (ME.imp (P := Is (.int (1 + (n : Int) % 7))) (me_I0 op_add me_int (me_I op_mod (me_var 5) me_int (by decide))) fun v H x h => by
        have e : v = V.int (1 + (n : Int) % 7) := h
        show v = V.int ((1 + n % 7 : Nat) : Int)
        rw [e]
        congr 1) ma_nil) fun vo H4 k4 b4 L4 c4 d4 ⟨o, hO, lo, go⟩ => ?_))
      have l7 : o.length ≤ 7 := by omega
      have l0 : 0 < o.length := by omega
      obtain ⟨j, hj⟩ : ∃ j, n / 7 % o.length = j := ⟨_, rfl⟩
      have jl : j < o.length := by
        rw [← hj]
        exact Nat.mod_lt _ l0
      -- at = n // 7 % len(order)
      refine wss_cons (ws_set 7 scLaw.nd (ME.we (me_I op_mod (me_I op_fdiv (me_var 5) me_int ⟨by decide, by decide⟩) (me_lenT B (me_is (me_var 6) hO)) (by omega)) fun z H5 x5 ez => ?_))
      have ez' : z = .int (j : Int) := by
        have e : z = .int ((n : Int) / 7 % (o.length : Int)) := ez
        rw [e, ← hj]
        congr 1
      subst ez'
      have hO5 := MoR.mo (R := Tu RI) x5 hO
      have L5 := L4.ex x5
      obtain ⟨t, ht⟩ : ∃ t, o[j] = t := ⟨_, rfl⟩
      obtain ⟨oth, hoth⟩ : ∃ oth, o.take j ++ o.drop (j + 1) = oth := ⟨_, rfl⟩
      have pk : (t :: oth).Perm o := by
        rw [← ht, ← hoth]
        exact pickPerm jl
      have atj : atI o (j : Int) = some t := by
        rw [atNat, List.getElem?_eq_getElem jl, ht]
      -- thread, others = ..
      refine wss_cons (ws_asg (MN.we (mn_tup (Ps := [RI t, Tu RI oth]) (ma_cons (me_ixT (R := RI) (me_is (me_var 6) hO5) (me_var 7) atj) (ma_cons (ME.imp (P := Tu RI (o.take j ++ o.drop (j + 1))) (me_cat (me_take (k := j) (me_is (me_var 6) hO5) (me_var 7)) (me_drop (k := j + 1) (me_is (me_var 6) hO5) (ME.imp (P := Is (.int ((j : Int) + 1))) (me_I0 op_add (me_var 7) me_int) fun v H x h => by
        have e : v = V.int ((j : Int) + 1) := h
        show v = V.int ((j + 1 : Nat) : Int)
        rw [e]
        congr 1)) (by simp; omega)) fun v H x h => by rw [← hoth]; exact h) ma_nil)) (moCons (moCons moNil)) (by simp)) fun tp H6 ntp x6 r => ?_))
      obtain ⟨tp', ys, e, htp, hys⟩ := r
      cases e
      obtain ⟨vt, vth, rfl, hvt, hvth⟩ := p2 hys
      have hvt' : vt = .int t := hvt
      subst hvt'
      refine wg_tup rfl (.inl htp) (wgs_cons (wg_name 8 scLaw.nd (wgs_cons (wg_name 9 scLaw.nd (wgs_nil ?_)))))
      have hO6 := MoR.mo (R := Tu RI) x6 hO5
      have L6 := L5.ex x6
      -- kept = _law_kept(..)
      refine wss_cons (ws_set 10 scLaw.nd (we_callL o GK (hr.mono (by decide)) ⟨go, l7⟩ L6 (by omega) (me_var 1) (me_var 3) (ma_cons (me_is (me_var 6) hO6) ma_nil) fun vk H7 k7 b7 L7 c7 d7 ⟨kp, hkp, hkt, gk⟩ => ?_))
      have hO7 : Tu RI o vo H7 := Im.im (R := Tu RI) (L6.tk b7) hO6
      have hth7 : Tu RI oth vth H7 := Im.im (R := Tu RI) (L6.tk b7) hvth
      -- dents, eyes = ..
      refine wss_cons (ws_parW 11 12 scLaw.nd (wa_cons (we_callL o GR (hr.mono (by decide)) ⟨go, l7⟩ L7 (by omega) (me_var 1) (me_var 3) (ma_cons (me_is (me_var 6) hO7) ma_nil) fun vd H8 k8 b8 L8 c8 d8 ⟨rows, hrows, grows⟩ => wa_cons (we_callL o GT (hr.mono (by decide)) ⟨go, l7⟩ L8 (by omega) (me_var 1) (me_var 3) (ma_cons (me_is (me_var 6) (Im.im (R := Tu RI) (L7.tk b8) hO7)) ma_nil) fun ve H9 k9 b9 L9 c9 d9 ⟨es, hes, ges⟩ => wa_nil ⟨vd, ve, rfl, ?_⟩))))
      have b79 : ExB (· = pS) H7 H9 := b8.trans b9
      have tk79 := L7.tk b79
      have hth9 : Tu RI oth vth H9 := Im.im (R := Tu RI) tk79 hth7
      have hkp9 := hkp.keep L7 b79
      have hrows9 : Tu (Tu RI) rows vd H9 := Im.im (R := Tu (Tu RI)) (L8.tk b9) hrows
      have bG9 : ExB (· = pS) G H9 := (ExB.of xG).trans (b3.trans (b4.trans ((ExB.of (x5.trans x6)).trans (b7.trans b79))))
      have kb9 : k9 ≤ 78 * (i + 1) := by omega
      clear hO hO5 hO6 hO7 hys hvth hth7 htp hkp hrows
      -- what they are
      have go2 : GoodO (t :: oth) := ⟨by rw [pk.length_eq]; exact go.len, fun m hm => go.thr m (pk.mem_iff.mp hm), pk.nodup_iff.mpr go.nd⟩
      have goth : GoodO oth := goodSub go2 (List.sublist_cons_self _ _)
      have loth : oth.length + 1 = o.length := by
        have := pk.length_eq
        rw [List.length_cons] at this
        exact this
      have tno : t ∉ oth := (List.nodup_cons.mp go2.nd).1
      have t0 := go2.thr t List.mem_cons_self
      have pmk : (t :: oth).Perm kp.threads := by
        rw [hkt]
        exact pk.trans (srt_perm o).symm
      have klen : kp.threads.length = o.length := by
        rw [hkt, (srt_perm o).length_eq]
      have okO : OkO kp := ⟨⟨gk, by omega⟩, by omega⟩
      have gb := goodBare gk t
      have gp : ∀ (k : Kept) (rs : List (List Int)) (el : List Led), GoodK k → (rs = [] ∨ GoodD rs) → GoodEs el → GoodP ⟨oth, t, k, rs, el⟩ := fun k rs el h1 h2 h3 => ⟨goth, by show oth.length < 60; omega, t0, tno, h1, h2, h3⟩
      have ge0 : GoodEs [] := ⟨(fun _ h => nomatch h), ⟨Nat.zero_le _, (fun _ h => nomatch h), List.nodup_nil⟩⟩
      -- bare = kept_without(kept, thread)
      refine wss_cons (ws_set 13 scLaw.nd (ME.we (me_callD (kp, t) GW (hr.mono (by decide)) ⟨gk, t0⟩ (ma_cons (me_is (me_var 10) hkp9.rk) (ma_cons (me_var 8) ma_nil))) fun vb H10 x10 hvb => ?_))
      have hth10 := MoR.mo (R := Tu RI) x10 hth9
      have hkp10 := MoR.mo (R := RKK) x10 hkp9
      have hrows10 := MoR.mo (R := Tu (Tu RI)) x10 hrows9
      have hes10 := MoR.mo (R := Tu RE) x10 hes
      -- some = [..]
      refine wss_cons (ws_set 14 scLaw.nd ((mn_lst (Ps := [Li RI (DP.res ⟨oth, t, kp, [], []⟩), Li RI (DP.res ⟨oth, t, without kp t, rows, []⟩)]) (ma_cons (mn_callD (⟨oth, t, kp, [], []⟩ : DP) GP (hr.mono (by decide)) (gp kp [] [] gk (.inl rfl) ge0) (ma_cons (me_is (me_var 9) hth10) (ma_cons (me_var 8) (ma_cons (me_is (me_var 10) hkp10.rk) (ma_cons emptyT (ma_cons emptyT ma_nil)))))).me
        (ma_cons (mn_callD (⟨oth, t, without kp t, rows, []⟩ : DP) GP (hr.mono (by decide)) (gp _ rows [] gb grows ge0) (ma_cons (me_is (me_var 9) hth10) (ma_cons (me_var 8) (ma_cons (me_is (me_var 13) hvb) (ma_cons (me_is (me_var 11) hrows10) (ma_cons emptyT ma_nil)))))).me ma_nil)) (moCons (moCons moNil)) (by simp)).we fun pM H11 nM x11 hM => ?_))
      obtain ⟨pM', ys, e, hM11, hys⟩ := hM
      cases e
      obtain ⟨y0, y1, rfl, hy0, hy1⟩ := p2 hys
      obtain ⟨q0, _, rfl, _, _⟩ := id hy0
      obtain ⟨q1, _, rfl, _, _⟩ := id hy1
      have hth11 := MoR.mo (R := Tu RI) x11 hth10
      have hkp11 := MoR.mo (R := RKK) x11 hkp10
      have hrows11 := MoR.mo (R := Tu (Tu RI)) x11 hrows10
      have hes11 := MoR.mo (R := Tu RE) x11 hes10
      have hvb11 := Im.im (R := RK) (tkEx x11) hvb
      have L11 := L9.ex (x10.trans x11)
      have mS : pM ≠ pS := fun z => by
        rw [z, L11.hs] at hM11
        have := HO.lst.inj (Option.some.inj hM11)
        cases (List.cons.inj this).1
      -- some.append(places(..))
      refine wss_cons (ws_expr (we_append hM11 (me_var 14) (mn_callD (⟨oth, t, without kp t, [], es⟩ : DP) GP (hr.mono (by decide)) (gp _ [] es gb (.inl rfl) ges) (ma_cons (me_is (me_var 9) hth11) (ma_cons (me_var 8) (ma_cons (me_is (me_var 13) hvb11) (ma_cons emptyT (ma_cons (me_is (me_var 12) hes11) ma_nil)))) ) (P' := Li RI (DP.res ⟨oth, t, without kp t, [], es⟩))).me (by show 2 ≤ 1000; decide) fun y2 H12 x12 hy2 => ?_))
      obtain ⟨q2, _, rfl, _, _⟩ := id hy2
      have hM12 := x12 _ _ hM11
      have z0 : Li RI (DP.res ⟨oth, t, kp, [], []⟩) (.ref q0) (upd H12 pM (.lst ([.ref q0, .ref q1] ++ [.ref q2]))) := liUp (MoR.mo (R := Li RI) x12 hy0) (liNe (v := .non) (v0 := .non) (MoR.mo (R := Li RI) x12 hy0) hM12)
      have z1 : Li RI (DP.res ⟨oth, t, without kp t, rows, []⟩) (.ref q1) (upd H12 pM (.lst ([.ref q0, .ref q1] ++ [.ref q2]))) := liUp (MoR.mo (R := Li RI) x12 hy1) (liNe (v := .non) (v0 := .non) (MoR.mo (R := Li RI) x12 hy1) hM12)
      have z2 : Li RI (DP.res ⟨oth, t, without kp t, [], es⟩) (.ref q2) (upd H12 pM (.lst ([.ref q0, .ref q1] ++ [.ref q2]))) := liUp hy2 (liNe (v := .non) (v0 := .non) hy2 hM12)
      have hM13 : upd H12 pM (.lst ([.ref q0, .ref q1] ++ [.ref q2])) pM = some (.lst [.ref q0, .ref q1, .ref q2]) := upd_same
      have tkM : Tk H11 (upd H12 pM (.lst ([.ref q0, .ref q1] ++ [.ref q2]))) := (tkEx x12).trans (tkL hM12)
      have nM10 : H10 pM = none := nM
      have bM : Ex H10 (upd H12 pM (.lst ([.ref q0, .ref q1] ++ [.ref q2]))) := ExB.off (D := (· = pM)) (x11.trans x12) (ExB.up rfl) fun b e => by rw [e]; exact nM10
      generalize upd H12 pM (.lst ([.ref q0, .ref q1] ++ [.ref q2])) = H13 at z0 z1 z2 hM13 tkM bM ⊢
      have hth13 := MoR.mo (R := Tu RI) bM hth10
      have hkp13 := MoR.mo (R := RKK) bM hkp10
      have hrows13 := MoR.mo (R := Tu (Tu RI)) bM hrows10
      have hes13 := MoR.mo (R := Tu RE) bM hes10
      have bG13 : ExB (· = pS) G H13 := bG9.trans (ExB.of (x10.trans bM))
      have L13 := L9.ex (x10.trans bM)
      have lenP : ∀ (k : Kept) (rs : List (List Int)) (el : List Led), (placesN oth t k rs el).length ≤ 8 := fun k rs el => by
        unfold placesN
        refine Nat.le_trans (List.length_filter_le _ _) ?_
        rw [List.length_range]
        omega
      -- due = [..]
      refine wss_cons (ws_n1 (R := RN) (S := RN) (j := 15) 16 (mi_lst (R := RN) (ds := placesN oth t kp [] []) (me_ixLV (i := ((0 : Nat) : Int)) (me_var 14) me_int hM13 (by rw [atNat]; rfl)) (liIN z0)) (fun p => decide (p ∈ placesN oth t (without kp t) rows []) && decide (p ∈ placesN oth t (without kp t) [] es)) (fun p => p) (small1000 (by have := lenP kp [] []; omega)) (fun p y H14 hp x14 r => ⟨?_, fun _ => ?_⟩) (fun pD H14 nD x14 hD => ?_) scLaw.nd
        (blkOk_by (N := nLaw) (sc := defScope sLaw) (by decide +kernel)))
      · have r' : y = .int (p : Int) := r
        subst r'
        intro _ _ _ _ _
        exact MW.mt (mw_and (MT.is (mt_inL (me_var 16) (me_is (me_ixLV (i := ((1 : Nat) : Int)) (me_var 14) me_int (x14 _ _ hM13) (by rw [atNat]; rfl)) (MoR.mo (R := Li RI) x14 z1))) memCast) fun _ => mw_and1 (MT.is (mt_inL (me_var 16) (me_is (me_ixLV (i := ((2 : Nat) : Int)) (me_var 14) me_int (x14 _ _ hM13) (by rw [atNat]; rfl)) (MoR.mo (R := Li RI) x14 z2))) memCast))
      · intro _ _ _ _ _
        exact me_is (me_var 16) r
      rw [eachAlone, mapSelf] at hD
      obtain ⟨Lp, hLp⟩ : ∃ Lp, placesN oth t kp rows es = Lp := ⟨_, rfl⟩
      have lLp := lenP kp rows es
      rw [hLp] at hD lLp
      have rLp : DP.res ⟨oth, t, kp, rows, es⟩ = Lp.map fun p : Nat => (p : Int) := by
        unfold DP.res placesIn
        rw [hLp]
      have hth14 := MoR.mo (R := Tu RI) x14 hth13
      have hkp14 := MoR.mo (R := RKK) x14 hkp13
      have hrows14 := MoR.mo (R := Tu (Tu RI)) x14 hrows13
      have hes14 := MoR.mo (R := Tu RE) x14 hes13
      -- if places(..) != due or not _law_kept_right(..)
      refine wss_cons (ws_if (MT.wt (k := false) (MT.is (MW.mt (mw_or (mt_neD (d := DP.res ⟨oth, t, kp, rows, es⟩) (d' := Lp.map fun p : Nat => (p : Int)) encL hr.units (mn_callD (⟨oth, t, kp, rows, es⟩ : DP) GP (hr.mono (by decide)) (gp kp rows es gk grows ges) (ma_cons (me_is (me_var 9) hth14) (ma_cons (me_var 8) (ma_cons (me_is (me_var 10) hkp14.rk) (ma_cons (me_is (me_var 11) hrows14) (ma_cons (me_is (me_var 12) hes14) ma_nil)))))).me (me_is (me_var 15) (liNI hD)))
        fun _ => mw_or1 (mt_not (mt_val (k := true) (me_callD (⟨oth, t, kp⟩ : KR) GKR hr ⟨gp kp [] [] gk (.inl rfl) ge0, okO, pmk⟩ (ma_cons (me_is (me_var 9) hth14) (ma_cons (me_var 8) (ma_cons (me_is (me_var 10) hkp14) ma_nil)))))))) (by rw [rLp, decide_eq_true rfl]; rfl)) fun H15 x15 => iteF (wss_nil ?_)))
      have hD15 := MoR.mo (R := Li RN) x15 hD
      have hth15 := MoR.mo (R := Tu RI) x15 hth14
      -- whole = [..]
      refine wss_cons (ws_n0 (R := RN) (S := Tu RI) (j := 17) 16 (mi_lst (R := RN) (me_var 15) hD15) (putAt' oth t) (small1000 (by omega)) (fun p y H16 hp x16 r => ?_) (fun pW H16 nW x16 hW => ?_) scLaw.nd (blkOk_by (N := nLaw) (sc := defScope sLaw) (by decide +kernel)))
      · have r' : y = .int (p : Int) := r
        subst r'
        have h13 := MoR.mo (R := Tu RI) x16 hth15
        have la : (oth.take p).length ≤ 60 := Nat.le_trans (List.length_take_le' _ _) (by omega)
        have lb : (oth.drop p).length ≤ 60 := by
          rw [List.length_drop]
          omega
        intro _ _ _ _ _
        exact me_cat (me_cat (me_take (k := p) (me_is (me_var 9) h13) (me_var 16)) (oneT (me_is (me_var 8) (show RI t (.int t) H16 from rfl))) (by simp; omega)) (me_drop (k := p) (me_is (me_var 9) h13) (me_var 16)) (by simp; omega)
      have x1416 := x15.trans x16
      have hD16 := MoR.mo (R := Li RN) x16 hD15
      have hth16 := MoR.mo (R := Tu RI) x1416 hth14
      have hkp16 := MoR.mo (R := RKK) x1416 hkp14
      have hrows16 := MoR.mo (R := Tu (Tu RI)) x1416 hrows14
      have hes16 := MoR.mo (R := Tu RE) x1416 hes14
      have lenD : ∀ {H' : Hp}, Li RN Lp (.ref pD) H' → Li RI (Lp.map fun p : Nat => (p : Int)) (.ref pD) H' := fun h => liNI h
      -- if _law_told(..) != ..
      refine wss_one (ws_if (MT.wt (k := false) ?_ fun H17 x17 => iteF (wss_nil ⟨⟨_, _, _, _, _, _, _, _, _, _, _, _, _, _, k9, rfl, bG.trans (bG13.trans (ExB.of (x14.trans (x1416.trans x17)))), L13.ex (x14.trans (x1416.trans x17)), kb9⟩, bG13.trans (ExB.of (x14.trans (x1416.trans x17)))⟩)))
      by_cases h1 : Lp.length = 1
      · obtain ⟨p, hp⟩ : ∃ p, Lp = [p] := List.length_eq_one_iff.mp h1
        refine MT.is (mt_neD (d := putAt' oth t p) (d' := putAt' oth t p) encT hr.units (ME.imp (P := ToldV ⟨oth, t, kp, rows, es⟩) (me_callD (⟨oth, t, kp, rows, es⟩ : DP) GLT hr (gp kp rows es gk grows ges) (ma_cons (me_is (me_var 9) hth16) (ma_cons (me_var 8) (ma_cons (me_is (me_var 10) hkp16.rk) (ma_cons (me_is (me_var 11) hrows16) (ma_cons (me_is (me_var 12) hes16) ma_nil)))))) fun v H' x h => h.1 p (by rw [← hp, ← hLp]))
          (me_if (k := true) (MT.is (mt_eqS (me_lenL B (me_is (me_var 15) (lenD hD16))) me_int) (by rw [List.length_map, h1]; exact decide_eq_true rfl)) (fun _ => me_ixL (R := Tu RI) (me_is (me_var 17) hW) (me_int (i := ((0 : Nat) : Int))) (by rw [atNat, hp]; rfl)) fun e => nomatch e)) ?_
        rw [decide_eq_true rfl]
        rfl
      · refine MT.is (mt_neD (d := Lp.map fun p : Nat => (p : Int)) (d' := Lp.map fun p : Nat => (p : Int)) encL hr.units (ME.imp (P := ToldV ⟨oth, t, kp, rows, es⟩) (me_callD (⟨oth, t, kp, rows, es⟩ : DP) GLT hr (gp kp rows es gk grows ges) (ma_cons (me_is (me_var 9) hth16) (ma_cons (me_var 8) (ma_cons (me_is (me_var 10) hkp16.rk) (ma_cons (me_is (me_var 11) hrows16) (ma_cons (me_is (me_var 12) hes16) ma_nil)))))) fun v H' x h => by
            have h2 := h.2 (by show (placesN oth t kp rows es).length ≠ 1; rw [hLp]; exact h1)
            rw [rLp] at h2
            exact h2)
          (me_if (k := false) (MT.is (mt_eqS (me_lenL B (me_is (me_var 15) (lenD hD16))) me_int) (by
            rw [List.length_map]
            exact decide_eq_false fun e => h1 (by have := V.int.inj e; omega))) (fun e => nomatch e) fun _ => me_is (me_var 15) (lenD hD16))) ?_
        rw [decide_eq_true rfl]
        rfl
    · subst e
      exact wss_one (ws_ret (me_bl.we fun z H3 x3 ez => by
        have ez' : z = .bl true := ez
        rw [ez']
        exact q H3))
end
end Wk
set_option Elab.async false
set_option linter.all false
set_option maxRecDepth 100000
set_option maxHeartbeats 400000
/-! What of the classes is looked at. -/
namespace Wk
open PySem PySem.Spec PyProof.Rows L2
/-- an own exception class below ValueError, with a dict -/
def oexB (K : PySem.W.Frag) (C : Addr) : Bool := match K.lookup C with
  | some ⟨.type t, _, .cls cd, sl⟩ => t == "type" && (match cd.mro, sl.toList with
    | .ref D :: r, [_, _, _, _, some (.builtin n), _] => (D == C && n == "ValueError.__new__") && (cd.hasDict && !cd.hasDel) && PySem.HandSPX.refsVE r
    | _, _ => false)
  | _ => false
theorem oexB_ok {K : PySem.W.Frag} {C : Addr} (h : oexB K C = true) : ∃ nm q N bs bm sn sub ab col dd k0 k1 k2 k3 k5, K.lookup C = some (excClassObj nm q C N bs bm true sn sub ab col dd k0 k1 k2 k3 k5 "ValueError.__new__") ∧ PySem.HandSPX.refsVE bm = true := by
  unfold oexB at h
  split at h
  · rename_i t dd cd sl there
    rw [Bool.and_eq_true] at h
    obtain ⟨ht, h⟩ := h
    have et : t = "type" := eq_of_beq ht
    subst et
    split at h
    · rename_i D r k0 k1 k2 k3 n k5 em es
      simp only [Bool.and_eq_true, beq_iff_eq, Bool.not_eq_true'] at h
      obtain ⟨⟨⟨e1, e2⟩, e3, e4⟩, e5⟩ := h
      subst e1 e2
      obtain ⟨nm, bs, mro, ns, qn, hd, sn, sub, ab, col, del⟩ := cd
      simp only at em e3 e4
      subst em e3 e4
      obtain ⟨l⟩ := sl
      simp only at es
      subst es
      exact ⟨nm, qn, ns, bs, r, sn, sub, ab, col, dd, k0, k1, k2, k3, k5, there, e5⟩
    · cases h
  · cases h
def valB (r : Option PySem.W.CFound) (n : String) : Bool := match r with
  | some (.val (.builtin m)) => m == n
  | _ => false
theorem valB_ok {r : Option PySem.W.CFound} {n : String} (h : valB r n = true) : r = some (.val (.builtin n)) := by
  unfold valB at h
  split at h
  · rw [eq_of_beq h]
  · cases h
abbrev cNs (K : PySem.W.Frag) : Addr := He.ga K "NotSure"
abbrev cWe (K : PySem.W.Frag) : Addr := He.ga K "WarpError"
/-- what of NotSure, of WarpError must hold -/
def exB (K : PySem.W.Frag) : Bool :=
  oexB K (cNs K) && (decide (PySem.W.findIn K (.ref (cNs K)) "__setattr__" = some (some (.builtin "object.__setattr__"))) && (decide (PySem.W.subIn K (.ref (cNs K)) (.type "BaseException") = some true) && (decide (PySem.W.typeIn K (.ref (cNs K)) = some (.type "type")) &&
  (PySem.W.keepIn K (.ref (cNs K)) && (decide (PySem.W.findIn K (.ref (cNs K)) "places" = some none) && (xfB K (cNs K) && (decide (PySem.W.findIn K (.ref (cNs K)) "__init__" = some (some (.ref (He.fAd K ("NotSure", some "__init__"))))) &&
  (decide (PySem.W.typeIn K (.ref (He.fAd K ("NotSure", some "__init__"))) = some (.type "function")) && (decide (PySem.W.specialIn K (.ref (cWe K)) "__getattribute__" = some (some (.builtin "type.__getattribute__"))) && (decide (PySem.W.typeIn K (.ref (cWe K)) = some (.type "type")) &&
  (PySem.W.readsIn K (cWe K) (.type "type") && (valB (PySem.W.findCls K (.ref (cWe K)) (.type "type") "__init__") "ValueError.__init__" && decide (PySem.W.nsIn K mainGlobals "WarpError" = some (some (.ref (cWe K))))))))))))))))
structure ExFacts (K : PySem.W.Frag) : Prop where
  o : OexC K (cNs K)
  no : PySem.W.findIn K (.ref (cNs K)) "places" = some none
  xf : XfC K (cNs K)
  ini : PySem.W.findIn K (.ref (cNs K)) "__init__" = some (some (.ref (He.fAd K ("NotSure", some "__init__"))))
  tini : PySem.W.typeIn K (.ref (He.fAd K ("NotSure", some "__init__"))) = some (.type "function")
  we : WeC K (cWe K)
  gw : PySem.W.nsIn K mainGlobals "WarpError" = some (some (.ref (cWe K)))
theorem exB_ok {K : PySem.W.Frag} (h : exB K = true) : ExFacts K := by
  unfold exB at h
  simp only [Bool.and_eq_true, decide_eq_true_eq] at h
  obtain ⟨h1, h2, h3, h4, h5, h6, h7, h8, h9, h10, h11, h12, h13, h14⟩ := h
  exact ⟨⟨oexB_ok h1, h2, h3, h4, h5⟩, h6, xfB_ok h7, h8, h9, ⟨h10, h11, h12, valB_ok h13⟩, h14⟩
end Wk
set_option Elab.async false
set_option linter.all false
set_option maxRecDepth 100000
set_option maxHeartbeats 0
namespace Wk
open PySem PySem.Spec PyProof.Rows L2
/-! ### the defs by names -/
def dNotsureInit : He.DefD := ⟨("NotSure", some "__init__"), "__init__", "NotSure.__init__", defArgs sNotsureInit, defBody sNotsureInit, defScope sNotsureInit, [], []⟩
def dIsAmong : He.DefD := ⟨("is_among", none), "is_among", "is_among", defArgs sIsAmong, defBody sIsAmong, defScope sIsAmong, [], []⟩
def dIsThread : He.DefD := ⟨("is_thread", none), "is_thread", "is_thread", defArgs sIsThread, defBody sIsThread, defScope sIsThread, [], []⟩
def dIsOrder : He.DefD := ⟨("is_order", none), "is_order", "is_order", defArgs sIsOrder, defBody sIsOrder, defScope sIsOrder, [], []⟩
def dAllThreads : He.DefD := ⟨("all_threads", none), "all_threads", "all_threads", defArgs sAllThreads, defBody sAllThreads, defScope sAllThreads, [], []⟩
def dAreApart : He.DefD := ⟨("are_apart", none), "are_apart", "are_apart", defArgs sAreApart, defBody sAreApart, defScope sAreApart, [], []⟩
def dIsCross : He.DefD := ⟨("is_cross", none), "is_cross", "is_cross", defArgs sIsCross, defBody sIsCross, defScope sIsCross, [], []⟩
def dAreBundles : He.DefD := ⟨("are_bundles", none), "are_bundles", "are_bundles", defArgs sAreBundles, defBody sAreBundles, defScope sAreBundles, [], []⟩
def dIsKept : He.DefD := ⟨("is_kept", none), "is_kept", "is_kept", defArgs sIsKept, defBody sIsKept, defScope sIsKept, [], []⟩
def dNeedOrder : He.DefD := ⟨("need_order", none), "need_order", "need_order", defArgs sNeedOrder, defBody sNeedOrder, defScope sNeedOrder, [], []⟩
def dNeedKept : He.DefD := ⟨("need_kept", none), "need_kept", "need_kept", defArgs sNeedKept, defBody sNeedKept, defScope sNeedKept, [], []⟩
def dIsOnSticks : He.DefD := ⟨("is_on_sticks", none), "is_on_sticks", "is_on_sticks", defArgs sIsOnSticks, defBody sIsOnSticks, defScope sIsOnSticks, [], []⟩
def dIsInBundles : He.DefD := ⟨("is_in_bundles", none), "is_in_bundles", "is_in_bundles", defArgs sIsInBundles, defBody sIsInBundles, defScope sIsInBundles, [], []⟩
def dFits : He.DefD := ⟨("fits", none), "fits", "fits", defArgs sFits, defBody sFits, defScope sFits, [], []⟩
def dLeftOf : He.DefD := ⟨("left_of", none), "left_of", "left_of", defArgs sLeftOf, defBody sLeftOf, defScope sLeftOf, [], []⟩
def dIsLed : He.DefD := ⟨("is_led", none), "is_led", "is_led", defArgs sIsLed, defBody sIsLed, defScope sIsLed, [], []⟩
def dIsThreaded : He.DefD := ⟨("is_threaded", none), "is_threaded", "is_threaded", defArgs sIsThreaded, defBody sIsThreaded, defScope sIsThreaded, [], []⟩
def dThreadsIn : He.DefD := ⟨("threads_in", none), "threads_in", "threads_in", defArgs sThreadsIn, defBody sThreadsIn, defScope sThreadsIn, [], []⟩
def dIsReeded : He.DefD := ⟨("is_reeded", none), "is_reeded", "is_reeded", defArgs sIsReeded, defBody sIsReeded, defScope sIsReeded, [], []⟩
def dNeedThread : He.DefD := ⟨("need_thread", none), "need_thread", "need_thread", defArgs sNeedThread, defBody sNeedThread, defScope sNeedThread, [], []⟩
def dNeedDents : He.DefD := ⟨("need_dents", none), "need_dents", "need_dents", defArgs sNeedDents, defBody sNeedDents, defScope sNeedDents, [], []⟩
def dNeedEyes : He.DefD := ⟨("need_eyes", none), "need_eyes", "need_eyes", defArgs sNeedEyes, defBody sNeedEyes, defScope sNeedEyes, [], []⟩
def dKeptWithout : He.DefD := ⟨("kept_without", none), "kept_without", "kept_without", defArgs sKeptWithout, defBody sKeptWithout, defScope sKeptWithout, [], []⟩
def dFitsDents : He.DefD := ⟨("fits_dents", none), "fits_dents", "fits_dents", defArgs sFitsDents, defBody sFitsDents, defScope sFitsDents, [], []⟩
def dFitsEyes : He.DefD := ⟨("fits_eyes", none), "fits_eyes", "fits_eyes", defArgs sFitsEyes, defBody sFitsEyes, defScope sFitsEyes, [], []⟩
def dPlacesIn : He.DefD := ⟨("places_in", none), "places_in", "places_in", defArgs sPlacesIn, defBody sPlacesIn, defScope sPlacesIn, [], []⟩
def dNeedOthers : He.DefD := ⟨("need_others", none), "need_others", "need_others", defArgs sNeedOthers, defBody sNeedOthers, defScope sNeedOthers, [], []⟩
def dNeedTold : He.DefD := ⟨("need_told", none), "need_told", "need_told", defArgs sNeedTold, defBody sNeedTold, defScope sNeedTold, [], []⟩
def dPlaces : He.DefD := ⟨("places", none), "places", "places", defArgs sPlaces, defBody sPlaces, defScope sPlaces, [], []⟩
def dRenamed : He.DefD := ⟨("renamed", none), "renamed", "renamed", defArgs sRenamed, defBody sRenamed, defScope sRenamed, [], []⟩
def dTied : He.DefD := ⟨("tied", none), "tied", "tied", defArgs sTied, defBody sTied, defScope sTied, [], []⟩
def dBitsOf : He.DefD := ⟨("bits_of", none), "bits_of", "bits_of", defArgs sBitsOf, defBody sBitsOf, defScope sBitsOf, [], []⟩
def dFittingInit : He.DefD := ⟨("Fitting", some "__init__"), "__init__", "Fitting.__init__", defArgs sFittingInit, defBody sFittingInit, defScope sFittingInit, [], []⟩
def dFittingLayStick : He.DefD := ⟨("Fitting", some "lay_stick"), "lay_stick", "Fitting.lay_stick", defArgs sFittingLayStick, defBody sFittingLayStick, defScope sFittingLayStick, [], []⟩
def dFittingLayBundles : He.DefD := ⟨("Fitting", some "lay_bundles"), "lay_bundles", "Fitting.lay_bundles", defArgs sFittingLayBundles, defBody sFittingLayBundles, defScope sFittingLayBundles, [], []⟩
def dFittingNextSpots : He.DefD := ⟨("Fitting", some "next_spots"), "next_spots", "Fitting.next_spots", defArgs sFittingNextSpots, defBody sFittingNextSpots, defScope sFittingNextSpots, [], []⟩
def dFittingBegun : He.DefD := ⟨("Fitting", some "begun"), "begun", "Fitting.begun", defArgs sFittingBegun, defBody sFittingBegun, defScope sFittingBegun, [], []⟩
def dFittingCountOn : He.DefD := ⟨("Fitting", some "count_on"), "count_on", "Fitting.count_on", defArgs sFittingCountOn, defBody sFittingCountOn, defScope sFittingCountOn, [], []⟩
def dFittingMany : He.DefD := ⟨("Fitting", some "many"), "many", "Fitting.many", defArgs sFittingMany, defBody sFittingMany, defScope sFittingMany, [], []⟩
def dFittingGoneOn : He.DefD := ⟨("Fitting", some "gone_on"), "gone_on", "Fitting.gone_on", defArgs sFittingGoneOn, defBody sFittingGoneOn, defScope sFittingGoneOn, [], []⟩
def dFittingRowsBetween : He.DefD := ⟨("Fitting", some "rows_between"), "rows_between", "Fitting.rows_between", defArgs sFittingRowsBetween, defBody sFittingRowsBetween, defScope sFittingRowsBetween, [], []⟩
def dFitting : He.DefD := ⟨("fitting", none), "fitting", "fitting", defArgs sFitting, defBody sFitting, defScope sFitting, [], []⟩
def dFirstIn : He.DefD := ⟨("first_in", none), "first_in", "first_in", defArgs sFirstIn, defBody sFirstIn, defScope sFirstIn, [], []⟩
def dOrders : He.DefD := ⟨("orders", none), "orders", "orders", defArgs sOrders, defBody sOrders, defScope sOrders, [], []⟩
def dToldOrder : He.DefD := ⟨("told_order", none), "told_order", "told_order", defArgs sToldOrder, defBody sToldOrder, defScope sToldOrder, [], []⟩
def dLawCell : He.DefD := ⟨("_law_cell", none), "_law_cell", "_law_cell", defArgs sLawCell, defBody sLawCell, defScope sLawCell, [], []⟩
def dLawOrder : He.DefD := ⟨("_law_order", none), "_law_order", "_law_order", defArgs sLawOrder, defBody sLawOrder, defScope sLawOrder, [], []⟩
def dLawTurned : He.DefD := ⟨("_law_turned", none), "_law_turned", "_law_turned", defArgs sLawTurned, defBody sLawTurned, defScope sLawTurned, [], []⟩
def dLawKept : He.DefD := ⟨("_law_kept", none), "_law_kept", "_law_kept", defArgs sLawKept, defBody sLawKept, defScope sLawKept, [], []⟩
def dLawReeded : He.DefD := ⟨("_law_reeded", none), "_law_reeded", "_law_reeded", defArgs sLawReeded, defBody sLawReeded, defScope sLawReeded, [], []⟩
def dLawThreaded : He.DefD := ⟨("_law_threaded", none), "_law_threaded", "_law_threaded", defArgs sLawThreaded, defBody sLawThreaded, defScope sLawThreaded, [], []⟩
def dLawOrders : He.DefD := ⟨("_law_orders", none), "_law_orders", "_law_orders", defArgs sLawOrders, defBody sLawOrders, defScope sLawOrders, [], []⟩
def dLawTold : He.DefD := ⟨("_law_told", none), "_law_told", "_law_told", defArgs sLawTold, defBody sLawTold, defScope sLawTold, [], []⟩
def dLawKeptRight : He.DefD := ⟨("_law_kept_right", none), "_law_kept_right", "_law_kept_right", defArgs sLawKeptRight, defBody sLawKeptRight, defScope sLawKeptRight, [], []⟩
def dLaw : He.DefD := ⟨("law", none), "law", "law", defArgs sLaw, defBody sLaw, defScope sLaw, [], []⟩
def fn : List He.DefD := [dNotsureInit, dIsAmong, dIsThread, dIsOrder, dAllThreads, dAreApart, dIsCross, dAreBundles, dIsKept, dNeedOrder, dNeedKept, dIsOnSticks, dIsInBundles, dFits, dLeftOf, dIsLed, dIsThreaded, dThreadsIn, dIsReeded, dNeedThread, dNeedDents, dNeedEyes, dKeptWithout, dFitsDents, dFitsEyes, dPlacesIn, dNeedOthers, dNeedTold, dPlaces, dRenamed, dTied, dBitsOf, dFittingInit, dFittingLayStick, dFittingLayBundles, dFittingNextSpots, dFittingBegun, dFittingCountOn, dFittingMany, dFittingGoneOn, dFittingRowsBetween, dFitting, dFirstIn, dOrders, dToldOrder, dLawCell, dLawOrder, dLawTurned, dLawKept, dLawReeded, dLawThreaded, dLawOrders, dLawTold, dLawKeptRight, dLaw]
def fa : List He.Fa := [
  .glo "is_among", .glo "is_thread", .glo "is_order", .glo "all_threads", .glo "are_apart", .glo "is_cross",
  .glo "are_bundles", .glo "is_kept", .glo "need_order", .glo "need_kept", .glo "is_on_sticks", .glo "is_in_bundles",
  .glo "fits", .glo "left_of", .glo "is_led", .glo "is_threaded", .glo "threads_in", .glo "is_reeded",
  .glo "need_thread", .glo "need_dents", .glo "need_eyes", .glo "kept_without", .glo "fits_dents", .glo "fits_eyes",
  .glo "places_in", .glo "need_others", .glo "need_told", .glo "places", .glo "renamed", .glo "tied",
  .glo "bits_of", .glo "fitting", .glo "first_in", .glo "orders", .glo "told_order", .glo "_law_cell",
  .glo "_law_order", .glo "_law_turned", .glo "_law_kept", .glo "_law_reeded", .glo "_law_threaded", .glo "_law_orders",
  .glo "_law_told", .glo "_law_kept_right", .glo "law", .int "MOST_THREAD" 99, .int "MOST_ENDS" 60, .int "MOST_CROSSES" 3,
  .int "MOST_BUNDLES" 20, .int "MOST_SHAFT" 7, .int "MOST_EYE" 59, .int "MOST_DENTS" 120, .int "MOST_BEGINNINGS" 5000, .int "MOST_TOLD" 200,
  .free "len", .free "isinstance", .free "int", .free "bool", .free "tuple", .free "all",
  .free "any", .free "set", .free "sorted", .free "list", .free "zip", .free "enumerate",
  .free "dict", .free "range", .free "sum", .free "min", .glo "Fitting", .cls "Fitting",
  .mkr "Fitting", .noat "Fitting" "threads", .noat "Fitting" "ahead", .noat "Fitting" "beside", .noat "Fitting" "levels", .meth "Fitting" "lay_stick",
  .meth "Fitting" "lay_bundles", .meth "Fitting" "next_spots", .meth "Fitting" "begun", .meth "Fitting" "count_on", .meth "Fitting" "many", .meth "Fitting" "gone_on",
  .meth "Fitting" "rows_between", .glo "TooMany", .glo "NoneFits", .glo "NotSure", .exc "TooMany", .exc "NoneFits",
  .exm "TooMany" "TooMany" true, .exm "NoneFits" "NoneFits" true, .exm "NotSure" "NoneFits" false, .exm "NotSure" "NotSure" true]
def nm0 : List PySem.Str := ["_wall", "WarpError", "BadOrder", "BadKept", "TooMany", "NoneFits", "BadReeded", "BadThreaded", "BadThread", "NotSure", "MOST_THREAD", "MOST_ENDS", "is_among", "is_thread", "is_order", "MOST_CROSSES", "MOST_BUNDLES", "all_threads", "are_apart", "is_cross", "are_bundles", "is_kept", "need_order", "need_kept", "is_on_sticks", "is_in_bundles", "fits", "left_of", "MOST_SHAFT", "MOST_EYE"]
def nm1 : List PySem.Str := ["is_led", "is_threaded", "MOST_DENTS", "threads_in", "is_reeded", "need_thread", "need_dents", "need_eyes", "kept_without", "fits_dents", "fits_eyes", "places_in", "need_others", "need_told", "places", "renamed", "all_had", "tied", "MOST_BEGINNINGS", "MOST_TOLD", "bits_of", "Fitting", "fitting", "first_in", "orders", "told_order", "_law_cell", "_law_order", "_law_turned", "_law_kept"]
def nm2 : List PySem.Str := ["_law_reeded", "_law_threaded", "_law_orders", "_law_told", "_law_kept_right"]
def names : List PySem.Str := nm0 ++ nm1 ++ nm2
abbrev R : PySem.W.OpenRow := PySem.W.OpenLaw.row PySem.Challenge.rw_warpkeep_k64_whole_each_asks_alone
/-- what the names reach, the interpreter's own statics with it -/
def frW (g : Addr → Option Obj) : PySem.W.Frag := He.frG g (He.asD g 5 ++ [cStatics])
def obsW (g : Addr → Option Obj) : Bool × He.AlD := (exB (frW g), He.obsD fa fn (frW g))
def hk : PySem.W.Hook where
  α := Bool × He.AlD
  obs := fun s => obsW s.heap.get?
  val := fun _ => (true, He.valD fn)
  says := fun _ h => ∃ K : PySem.W.Frag, K.In h ∧ He.SaysD fa fn K ∧ exB K = true
  of := fun _ _ e => ⟨_, He.frG_in, congrArg (fun z : Bool × He.AlD => z.2) e, congrArg (fun z : Bool × He.AlD => z.1) e⟩
  keeps := fun _ _ _ ⟨K, hK, c, d⟩ k => ⟨K, PySem.W.Frag.In.keeps hK k, c, d⟩
def ob (s : PySem.W.SharedT) : Bool × He.AlD := obsW (HandSHeadRun.getT s)
theorem ob_eq (s : PySem.W.SharedT) : ob s = hk.obs s.abs := by
  have e : HandSHeadRun.getT s = s.abs.heap.get? := funext (HandSHeadRun.getT_eq s)
  unfold ob
  rw [e]
  rfl
theorem run (w : World) : HandSHeadRun.RunEq R (PySem.W.view R.prog [73]) hk ob 100000 names w := by
  intro os
  kernel_rfl
end Wk
set_option Elab.async false
set_option linter.all false
set_option maxRecDepth 100000
set_option maxHeartbeats 4000000
/-! The end. -/
namespace Wk
open PySem PySem.Spec PyProof.Rows L2
section
variable {P : Program} {w : World} {K : PySem.W.Frag} {mg : Str → Option Value} {h : Heap}
/-- what the end leans on -/
structure Facts (K : PySem.W.Frag) (mg : Str → Option Value) : Prop where
  bl : Bl mg
  fc : FC K (He.ga K "Fitting")
  cF : mg "Fitting" = some (.ref (He.ga K "Fitting"))
  tm : ExF K mg "TooMany" (He.ga K "TooMany")
  nf : ExF K mg "NoneFits" (He.ga K "NoneFits")
  ns : NsC K mg (cNs K)
  gw : mg "WarpError" = some (.ref (cWe K))
  we : WeC K (cWe K)
  x1 : PySem.W.exmOne K (.ref (He.ga K "TooMany")) (.ref (He.ga K "TooMany")) = some true
  x2 : PySem.W.exmOne K (.ref (He.ga K "NoneFits")) (.ref (He.ga K "NoneFits")) = some true
  x3 : PySem.W.exmOne K (.ref (cNs K)) (.ref (He.ga K "NoneFits")) = some false
  x4 : PySem.W.exmOne K (.ref (cNs K)) (.ref (cNs K)) = some true
  mThread : ∃ t, mg "MOST_THREAD" = some (.int 99 t)
  mEnds : ∃ t, mg "MOST_ENDS" = some (.int 60 t)
  mCrosses : ∃ t, mg "MOST_CROSSES" = some (.int 3 t)
  mBundles : ∃ t, mg "MOST_BUNDLES" = some (.int 20 t)
  mShaft : ∃ t, mg "MOST_SHAFT" = some (.int 7 t)
  mEye : ∃ t, mg "MOST_EYE" = some (.int 59 t)
  mDents : ∃ t, mg "MOST_DENTS" = some (.int 120 t)
  mBeg : ∃ t, mg "MOST_BEGINNINGS" = some (.int 5000 t)
  mTold : ∃ t, mg "MOST_TOLD" = some (.int 200 t)
  iNs : DfN K (cNs K) "NotSure.__init__" sNotsureInit
  iFit : DfK K (He.ga K "Fitting") "Fitting.__init__" sFittingInit
  mdFittingLayStick : DfM K (He.ga K "Fitting") "lay_stick" "Fitting.lay_stick" sFittingLayStick
  mdFittingLayBundles : DfM K (He.ga K "Fitting") "lay_bundles" "Fitting.lay_bundles" sFittingLayBundles
  mdFittingNextSpots : DfM K (He.ga K "Fitting") "next_spots" "Fitting.next_spots" sFittingNextSpots
  mdFittingBegun : DfM K (He.ga K "Fitting") "begun" "Fitting.begun" sFittingBegun
  mdFittingCountOn : DfM K (He.ga K "Fitting") "count_on" "Fitting.count_on" sFittingCountOn
  mdFittingMany : DfM K (He.ga K "Fitting") "many" "Fitting.many" sFittingMany
  mdFittingGoneOn : DfM K (He.ga K "Fitting") "gone_on" "Fitting.gone_on" sFittingGoneOn
  mdFittingRowsBetween : DfM K (He.ga K "Fitting") "rows_between" "Fitting.rows_between" sFittingRowsBetween
  pdIsAmong : Df K mg "is_among" sIsAmong
  pdIsThread : Df K mg "is_thread" sIsThread
  pdIsOrder : Df K mg "is_order" sIsOrder
  pdAllThreads : Df K mg "all_threads" sAllThreads
  pdAreApart : Df K mg "are_apart" sAreApart
  pdIsCross : Df K mg "is_cross" sIsCross
  pdAreBundles : Df K mg "are_bundles" sAreBundles
  pdIsKept : Df K mg "is_kept" sIsKept
  pdNeedOrder : Df K mg "need_order" sNeedOrder
  pdNeedKept : Df K mg "need_kept" sNeedKept
  pdIsOnSticks : Df K mg "is_on_sticks" sIsOnSticks
  pdIsInBundles : Df K mg "is_in_bundles" sIsInBundles
  pdFits : Df K mg "fits" sFits
  pdLeftOf : Df K mg "left_of" sLeftOf
  pdIsLed : Df K mg "is_led" sIsLed
  pdIsThreaded : Df K mg "is_threaded" sIsThreaded
  pdThreadsIn : Df K mg "threads_in" sThreadsIn
  pdIsReeded : Df K mg "is_reeded" sIsReeded
  pdNeedThread : Df K mg "need_thread" sNeedThread
  pdNeedDents : Df K mg "need_dents" sNeedDents
  pdNeedEyes : Df K mg "need_eyes" sNeedEyes
  pdKeptWithout : Df K mg "kept_without" sKeptWithout
  pdFitsDents : Df K mg "fits_dents" sFitsDents
  pdFitsEyes : Df K mg "fits_eyes" sFitsEyes
  pdPlacesIn : Df K mg "places_in" sPlacesIn
  pdNeedOthers : Df K mg "need_others" sNeedOthers
  pdNeedTold : Df K mg "need_told" sNeedTold
  pdPlaces : Df K mg "places" sPlaces
  pdRenamed : Df K mg "renamed" sRenamed
  pdTied : Df K mg "tied" sTied
  pdBitsOf : Df K mg "bits_of" sBitsOf
  pdFitting : Df K mg "fitting" sFitting
  pdFirstIn : Df K mg "first_in" sFirstIn
  pdOrders : Df K mg "orders" sOrders
  pdToldOrder : Df K mg "told_order" sToldOrder
  pdLawCell : Df K mg "_law_cell" sLawCell
  pdLawOrder : Df K mg "_law_order" sLawOrder
  pdLawTurned : Df K mg "_law_turned" sLawTurned
  pdLawKept : Df K mg "_law_kept" sLawKept
  pdLawReeded : Df K mg "_law_reeded" sLawReeded
  pdLawThreaded : Df K mg "_law_threaded" sLawThreaded
  pdLawOrders : Df K mg "_law_orders" sLawOrders
  pdLawTold : Df K mg "_law_told" sLawTold
  pdLawKeptRight : Df K mg "_law_kept_right" sLawKeptRight
theorem facts (X : K.In h) (G : h.Ns mainGlobals mg) (c : He.SaysD fa fn K) (e : ExFacts K) : Facts K mg where
  bl := ⟨He.free_ok X G (c.fact 54 (f := .free "len") rfl), He.free_ok X G (c.fact 55 (f := .free "isinstance") rfl), He.free_ok X G (c.fact 56 (f := .free "int") rfl), He.free_ok X G (c.fact 57 (f := .free "bool") rfl), He.free_ok X G (c.fact 58 (f := .free "tuple") rfl), He.free_ok X G (c.fact 59 (f := .free "all") rfl), He.free_ok X G (c.fact 60 (f := .free "any") rfl), He.free_ok X G (c.fact 61 (f := .free "set") rfl), He.free_ok X G (c.fact 62 (f := .free "sorted") rfl), He.free_ok X G (c.fact 63 (f := .free "list") rfl), He.free_ok X G (c.fact 64 (f := .free "zip") rfl), He.free_ok X G (c.fact 65 (f := .free "enumerate") rfl), He.free_ok X G (c.fact 66 (f := .free "dict") rfl), He.free_ok X G (c.fact 67 (f := .free "range") rfl), He.free_ok X G (c.fact 68 (f := .free "sum") rfl), He.free_ok X G (c.fact 69 (f := .free "min") rfl)⟩
  fc := ⟨He.cls_ok (c.fact 71 (f := .cls "Fitting") rfl), He.noat_ok (c.fact 73 (f := .noat "Fitting" "threads") rfl), He.noat_ok (c.fact 74 (f := .noat "Fitting" "ahead") rfl), He.noat_ok (c.fact 75 (f := .noat "Fitting" "beside") rfl), He.noat_ok (c.fact 76 (f := .noat "Fitting" "levels") rfl)⟩
  cF := He.glo_ok X G (c.fact 70 (f := .glo "Fitting") rfl)
  tm := ⟨He.glo_ok X G (c.fact 85 (f := .glo "TooMany") rfl), (He.exc_ok (c.fact 88 (f := .exc "TooMany") rfl)).1, (He.exc_ok (c.fact 88 (f := .exc "TooMany") rfl)).2.1, (He.exc_ok (c.fact 88 (f := .exc "TooMany") rfl)).2.2.1, (He.exc_ok (c.fact 88 (f := .exc "TooMany") rfl)).2.2.2⟩
  nf := ⟨He.glo_ok X G (c.fact 86 (f := .glo "NoneFits") rfl), (He.exc_ok (c.fact 89 (f := .exc "NoneFits") rfl)).1, (He.exc_ok (c.fact 89 (f := .exc "NoneFits") rfl)).2.1, (He.exc_ok (c.fact 89 (f := .exc "NoneFits") rfl)).2.2.1, (He.exc_ok (c.fact 89 (f := .exc "NoneFits") rfl)).2.2.2⟩
  ns := ⟨He.glo_ok X G (c.fact 87 (f := .glo "NotSure") rfl), e.o, e.no, e.xf⟩
  gw := PySem.W.mg_of X G e.gw
  we := e.we
  x1 := He.exm_ok (c.fact 90 (f := .exm "TooMany" "TooMany" true) rfl)
  x2 := He.exm_ok (c.fact 91 (f := .exm "NoneFits" "NoneFits" true) rfl)
  x3 := He.exm_ok (c.fact 92 (f := .exm "NotSure" "NoneFits" false) rfl)
  x4 := He.exm_ok (c.fact 93 (f := .exm "NotSure" "NotSure" true) rfl)
  mThread := He.int_ok X G (c.fact 45 (f := .int "MOST_THREAD" 99) rfl)
  mEnds := He.int_ok X G (c.fact 46 (f := .int "MOST_ENDS" 60) rfl)
  mCrosses := He.int_ok X G (c.fact 47 (f := .int "MOST_CROSSES" 3) rfl)
  mBundles := He.int_ok X G (c.fact 48 (f := .int "MOST_BUNDLES" 20) rfl)
  mShaft := He.int_ok X G (c.fact 49 (f := .int "MOST_SHAFT" 7) rfl)
  mEye := He.int_ok X G (c.fact 50 (f := .int "MOST_EYE" 59) rfl)
  mDents := He.int_ok X G (c.fact 51 (f := .int "MOST_DENTS" 120) rfl)
  mBeg := He.int_ok X G (c.fact 52 (f := .int "MOST_BEGINNINGS" 5000) rfl)
  mTold := He.int_ok X G (c.fact 53 (f := .int "MOST_TOLD" 200) rfl)
  iNs := by
    obtain ⟨fd, F⟩ := c.def_ 0 (d := dNotsureInit) rfl
    exact ⟨_, fd, F, e.ini, e.tini⟩
  iFit := by
    obtain ⟨fd, F⟩ := c.def_ 32 (d := dFittingInit) rfl
    exact ⟨_, fd, F, He.mkr_ok (c.fact 72 (f := .mkr "Fitting") rfl)⟩
  mdFittingLayStick := by
    obtain ⟨fd, F⟩ := c.def_ 33 (d := dFittingLayStick) rfl
    exact ⟨_, fd, F, He.meth_ok (c.fact 77 (f := .meth "Fitting" "lay_stick") rfl)⟩
  mdFittingLayBundles := by
    obtain ⟨fd, F⟩ := c.def_ 34 (d := dFittingLayBundles) rfl
    exact ⟨_, fd, F, He.meth_ok (c.fact 78 (f := .meth "Fitting" "lay_bundles") rfl)⟩
  mdFittingNextSpots := by
    obtain ⟨fd, F⟩ := c.def_ 35 (d := dFittingNextSpots) rfl
    exact ⟨_, fd, F, He.meth_ok (c.fact 79 (f := .meth "Fitting" "next_spots") rfl)⟩
  mdFittingBegun := by
    obtain ⟨fd, F⟩ := c.def_ 36 (d := dFittingBegun) rfl
    exact ⟨_, fd, F, He.meth_ok (c.fact 80 (f := .meth "Fitting" "begun") rfl)⟩
  mdFittingCountOn := by
    obtain ⟨fd, F⟩ := c.def_ 37 (d := dFittingCountOn) rfl
    exact ⟨_, fd, F, He.meth_ok (c.fact 81 (f := .meth "Fitting" "count_on") rfl)⟩
  mdFittingMany := by
    obtain ⟨fd, F⟩ := c.def_ 38 (d := dFittingMany) rfl
    exact ⟨_, fd, F, He.meth_ok (c.fact 82 (f := .meth "Fitting" "many") rfl)⟩
  mdFittingGoneOn := by
    obtain ⟨fd, F⟩ := c.def_ 39 (d := dFittingGoneOn) rfl
    exact ⟨_, fd, F, He.meth_ok (c.fact 83 (f := .meth "Fitting" "gone_on") rfl)⟩
  mdFittingRowsBetween := by
    obtain ⟨fd, F⟩ := c.def_ 40 (d := dFittingRowsBetween) rfl
    exact ⟨_, fd, F, He.meth_ok (c.fact 84 (f := .meth "Fitting" "rows_between") rfl)⟩
  pdIsAmong := by
    obtain ⟨fd, F⟩ := c.def_ 1 (d := dIsAmong) rfl
    exact ⟨_, fd, F, He.glo_ok X G (c.fact 0 (f := .glo "is_among") rfl)⟩
  pdIsThread := by
    obtain ⟨fd, F⟩ := c.def_ 2 (d := dIsThread) rfl
    exact ⟨_, fd, F, He.glo_ok X G (c.fact 1 (f := .glo "is_thread") rfl)⟩
  pdIsOrder := by
    obtain ⟨fd, F⟩ := c.def_ 3 (d := dIsOrder) rfl
    exact ⟨_, fd, F, He.glo_ok X G (c.fact 2 (f := .glo "is_order") rfl)⟩
  pdAllThreads := by
    obtain ⟨fd, F⟩ := c.def_ 4 (d := dAllThreads) rfl
    exact ⟨_, fd, F, He.glo_ok X G (c.fact 3 (f := .glo "all_threads") rfl)⟩
  pdAreApart := by
    obtain ⟨fd, F⟩ := c.def_ 5 (d := dAreApart) rfl
    exact ⟨_, fd, F, He.glo_ok X G (c.fact 4 (f := .glo "are_apart") rfl)⟩
  pdIsCross := by
    obtain ⟨fd, F⟩ := c.def_ 6 (d := dIsCross) rfl
    exact ⟨_, fd, F, He.glo_ok X G (c.fact 5 (f := .glo "is_cross") rfl)⟩
  pdAreBundles := by
    obtain ⟨fd, F⟩ := c.def_ 7 (d := dAreBundles) rfl
    exact ⟨_, fd, F, He.glo_ok X G (c.fact 6 (f := .glo "are_bundles") rfl)⟩
  pdIsKept := by
    obtain ⟨fd, F⟩ := c.def_ 8 (d := dIsKept) rfl
    exact ⟨_, fd, F, He.glo_ok X G (c.fact 7 (f := .glo "is_kept") rfl)⟩
  pdNeedOrder := by
    obtain ⟨fd, F⟩ := c.def_ 9 (d := dNeedOrder) rfl
    exact ⟨_, fd, F, He.glo_ok X G (c.fact 8 (f := .glo "need_order") rfl)⟩
  pdNeedKept := by
    obtain ⟨fd, F⟩ := c.def_ 10 (d := dNeedKept) rfl
    exact ⟨_, fd, F, He.glo_ok X G (c.fact 9 (f := .glo "need_kept") rfl)⟩
  pdIsOnSticks := by
    obtain ⟨fd, F⟩ := c.def_ 11 (d := dIsOnSticks) rfl
    exact ⟨_, fd, F, He.glo_ok X G (c.fact 10 (f := .glo "is_on_sticks") rfl)⟩
  pdIsInBundles := by
    obtain ⟨fd, F⟩ := c.def_ 12 (d := dIsInBundles) rfl
    exact ⟨_, fd, F, He.glo_ok X G (c.fact 11 (f := .glo "is_in_bundles") rfl)⟩
  pdFits := by
    obtain ⟨fd, F⟩ := c.def_ 13 (d := dFits) rfl
    exact ⟨_, fd, F, He.glo_ok X G (c.fact 12 (f := .glo "fits") rfl)⟩
  pdLeftOf := by
    obtain ⟨fd, F⟩ := c.def_ 14 (d := dLeftOf) rfl
    exact ⟨_, fd, F, He.glo_ok X G (c.fact 13 (f := .glo "left_of") rfl)⟩
  pdIsLed := by
    obtain ⟨fd, F⟩ := c.def_ 15 (d := dIsLed) rfl
    exact ⟨_, fd, F, He.glo_ok X G (c.fact 14 (f := .glo "is_led") rfl)⟩
  pdIsThreaded := by
    obtain ⟨fd, F⟩ := c.def_ 16 (d := dIsThreaded) rfl
    exact ⟨_, fd, F, He.glo_ok X G (c.fact 15 (f := .glo "is_threaded") rfl)⟩
  pdThreadsIn := by
    obtain ⟨fd, F⟩ := c.def_ 17 (d := dThreadsIn) rfl
    exact ⟨_, fd, F, He.glo_ok X G (c.fact 16 (f := .glo "threads_in") rfl)⟩
  pdIsReeded := by
    obtain ⟨fd, F⟩ := c.def_ 18 (d := dIsReeded) rfl
    exact ⟨_, fd, F, He.glo_ok X G (c.fact 17 (f := .glo "is_reeded") rfl)⟩
  pdNeedThread := by
    obtain ⟨fd, F⟩ := c.def_ 19 (d := dNeedThread) rfl
    exact ⟨_, fd, F, He.glo_ok X G (c.fact 18 (f := .glo "need_thread") rfl)⟩
  pdNeedDents := by
    obtain ⟨fd, F⟩ := c.def_ 20 (d := dNeedDents) rfl
    exact ⟨_, fd, F, He.glo_ok X G (c.fact 19 (f := .glo "need_dents") rfl)⟩
  pdNeedEyes := by
    obtain ⟨fd, F⟩ := c.def_ 21 (d := dNeedEyes) rfl
    exact ⟨_, fd, F, He.glo_ok X G (c.fact 20 (f := .glo "need_eyes") rfl)⟩
  pdKeptWithout := by
    obtain ⟨fd, F⟩ := c.def_ 22 (d := dKeptWithout) rfl
    exact ⟨_, fd, F, He.glo_ok X G (c.fact 21 (f := .glo "kept_without") rfl)⟩
  pdFitsDents := by
    obtain ⟨fd, F⟩ := c.def_ 23 (d := dFitsDents) rfl
    exact ⟨_, fd, F, He.glo_ok X G (c.fact 22 (f := .glo "fits_dents") rfl)⟩
  pdFitsEyes := by
    obtain ⟨fd, F⟩ := c.def_ 24 (d := dFitsEyes) rfl
    exact ⟨_, fd, F, He.glo_ok X G (c.fact 23 (f := .glo "fits_eyes") rfl)⟩
  pdPlacesIn := by
    obtain ⟨fd, F⟩ := c.def_ 25 (d := dPlacesIn) rfl
    exact ⟨_, fd, F, He.glo_ok X G (c.fact 24 (f := .glo "places_in") rfl)⟩
  pdNeedOthers := by
    obtain ⟨fd, F⟩ := c.def_ 26 (d := dNeedOthers) rfl
    exact ⟨_, fd, F, He.glo_ok X G (c.fact 25 (f := .glo "need_others") rfl)⟩
  pdNeedTold := by
    obtain ⟨fd, F⟩ := c.def_ 27 (d := dNeedTold) rfl
    exact ⟨_, fd, F, He.glo_ok X G (c.fact 26 (f := .glo "need_told") rfl)⟩
  pdPlaces := by
    obtain ⟨fd, F⟩ := c.def_ 28 (d := dPlaces) rfl
    exact ⟨_, fd, F, He.glo_ok X G (c.fact 27 (f := .glo "places") rfl)⟩
  pdRenamed := by
    obtain ⟨fd, F⟩ := c.def_ 29 (d := dRenamed) rfl
    exact ⟨_, fd, F, He.glo_ok X G (c.fact 28 (f := .glo "renamed") rfl)⟩
  pdTied := by
    obtain ⟨fd, F⟩ := c.def_ 30 (d := dTied) rfl
    exact ⟨_, fd, F, He.glo_ok X G (c.fact 29 (f := .glo "tied") rfl)⟩
  pdBitsOf := by
    obtain ⟨fd, F⟩ := c.def_ 31 (d := dBitsOf) rfl
    exact ⟨_, fd, F, He.glo_ok X G (c.fact 30 (f := .glo "bits_of") rfl)⟩
  pdFitting := by
    obtain ⟨fd, F⟩ := c.def_ 41 (d := dFitting) rfl
    exact ⟨_, fd, F, He.glo_ok X G (c.fact 31 (f := .glo "fitting") rfl)⟩
  pdFirstIn := by
    obtain ⟨fd, F⟩ := c.def_ 42 (d := dFirstIn) rfl
    exact ⟨_, fd, F, He.glo_ok X G (c.fact 32 (f := .glo "first_in") rfl)⟩
  pdOrders := by
    obtain ⟨fd, F⟩ := c.def_ 43 (d := dOrders) rfl
    exact ⟨_, fd, F, He.glo_ok X G (c.fact 33 (f := .glo "orders") rfl)⟩
  pdToldOrder := by
    obtain ⟨fd, F⟩ := c.def_ 44 (d := dToldOrder) rfl
    exact ⟨_, fd, F, He.glo_ok X G (c.fact 34 (f := .glo "told_order") rfl)⟩
  pdLawCell := by
    obtain ⟨fd, F⟩ := c.def_ 45 (d := dLawCell) rfl
    exact ⟨_, fd, F, He.glo_ok X G (c.fact 35 (f := .glo "_law_cell") rfl)⟩
  pdLawOrder := by
    obtain ⟨fd, F⟩ := c.def_ 46 (d := dLawOrder) rfl
    exact ⟨_, fd, F, He.glo_ok X G (c.fact 36 (f := .glo "_law_order") rfl)⟩
  pdLawTurned := by
    obtain ⟨fd, F⟩ := c.def_ 47 (d := dLawTurned) rfl
    exact ⟨_, fd, F, He.glo_ok X G (c.fact 37 (f := .glo "_law_turned") rfl)⟩
  pdLawKept := by
    obtain ⟨fd, F⟩ := c.def_ 48 (d := dLawKept) rfl
    exact ⟨_, fd, F, He.glo_ok X G (c.fact 38 (f := .glo "_law_kept") rfl)⟩
  pdLawReeded := by
    obtain ⟨fd, F⟩ := c.def_ 49 (d := dLawReeded) rfl
    exact ⟨_, fd, F, He.glo_ok X G (c.fact 39 (f := .glo "_law_reeded") rfl)⟩
  pdLawThreaded := by
    obtain ⟨fd, F⟩ := c.def_ 50 (d := dLawThreaded) rfl
    exact ⟨_, fd, F, He.glo_ok X G (c.fact 40 (f := .glo "_law_threaded") rfl)⟩
  pdLawOrders := by
    obtain ⟨fd, F⟩ := c.def_ 51 (d := dLawOrders) rfl
    exact ⟨_, fd, F, He.glo_ok X G (c.fact 41 (f := .glo "_law_orders") rfl)⟩
  pdLawTold := by
    obtain ⟨fd, F⟩ := c.def_ 52 (d := dLawTold) rfl
    exact ⟨_, fd, F, He.glo_ok X G (c.fact 42 (f := .glo "_law_told") rfl)⟩
  pdLawKeptRight := by
    obtain ⟨fd, F⟩ := c.def_ 53 (d := dLawKeptRight) rfl
    exact ⟨_, fd, F, He.glo_ok X G (c.fact 43 (f := .glo "_law_kept_right") rfl)⟩
theorem lawOk {base : Heap} (T : Facts K mg) : ∀ (f : Addr) (cdv : Value) (A : Around) (outer : List Env) (s : Shared) (H : Hp) (vs : List V) (Q : VK) (E : XK), Room 11 (A.deeper (envOfC "law" (defScope sLaw) s.heap.objs.size f cdv)) → spLaw K vs H Q E →
      WSs (cx0 P w K mg base nLaw "law" sLaw f cdv A outer s H E) (defBody sLaw) { nx := fun _ H' => Q .non H', rt := Q } (start nLaw vs) H := by
  have B := T.bl
  have hAmong : Has P w K mg base CX0 "is_among" 1 ["thing", "least", "most"] spAmong := hIsAmong B T.pdIsAmong
  have hThread : Has P w K mg base CX0 "is_thread" 2 ["thing"] spThread := hIsThread B T.pdIsThread hAmong T.mThread
  have hOrder : Has P w K mg base CX0 "is_order" 3 ["thing"] spOrder := hIsOrder B T.pdIsOrder hThread T.mEnds
  have aAll : Has P w K mg base CX0 "all_threads" 1 ["some"] spAll := hAll T.pdAllThreads
  have aApart := hApart B T.pdAreApart hOrder aAll
  have aCross := hCross B T.pdIsCross aApart
  have aBund := hBundles T.pdAreBundles aApart T.mBundles
  have aKept := hKept B T.pdIsKept hOrder aAll aCross aBund T.mCrosses
  have nOrder := hNeedOrder T.pdNeedOrder hOrder
  have nKept := hNeedKept T.pdNeedKept aKept
  have nThread := hNeedThread T.pdNeedThread hThread
  have aLeft : Has P w K mg base CX0 "left_of" 1 ["one", "order"] spLeft := hLeft B T.pdLeftOf
  have aLed := hLed B T.pdIsLed hOrder hAmong T.mShaft T.mEye
  have aThreaded := hThreaded B T.pdIsThreaded aLed hOrder T.mEnds
  have aThIn : Has P w K mg base CX0 "threads_in" 1 ["dents"] spThreadsIn := hThreadsIn T.pdThreadsIn
  have aReeded := hReeded B T.pdIsReeded hOrder aThIn T.mDents
  have nDents := hNeedDents T.pdNeedDents aReeded
  have nEyes := hNeedEyes T.pdNeedEyes aThreaded
  have aSticks : Has P w K mg base CX0 "is_on_sticks" 1 ["order", "cross"] spSticks := hSticks B T.pdIsOnSticks
  have aInB : Has P w K mg base CX0 "is_in_bundles" 1 ["order", "bundles"] spInBundles := hInBundles B T.pdIsInBundles
  have aFits := hFits B T.pdFits nOrder nKept aInB aSticks
  have aWithout := hWithout B T.pdKeptWithout nKept nThread aLeft
  have aFD : Has P w K mg base CX0 "fits_dents" 1 ["ahead", "behind", "thread", "reeded"] spFitsDents := hFitsDents B T.pdFitsDents
  have aFE : Has P w K mg base CX0 "fits_eyes" 1 ["ahead", "behind", "thread", "threaded"] spFitsEyes := hFitsEyes B T.pdFitsEyes
  have aPIn := hPlacesIn B T.pdPlacesIn aFits aFD aFE
  have nOthers := hNeedOthers B T.pdNeedOthers nOrder nThread T.mEnds
  have nTold := hNeedTold B T.pdNeedTold nKept nDents nEyes
  have aPlaces := hPlaces T.pdPlaces nOthers nTold aPIn
  have aBits : Has P w K mg base CX0 "bits_of" 1 ["spots"] spBits := hBits T.pdBitsOf
  have aNext : HasM P w K mg base CX0 (He.ga K "Fitting") "next_spots" 1 ["self", "bits", "last"] (spNext (He.ga K "Fitting")) := hNext B T.fc T.mdFittingNextSpots
  have aMany : HasM P w K mg base CX0 (He.ga K "Fitting") "many" 1 ["self"] (spMany (He.ga K "Fitting") P w) := hMany T.fc T.mdFittingMany
  have aGone := hGone T.fc T.mdFittingGoneOn aNext
  have aStick := hStick T.fc T.mdFittingLayStick aBits
  have aRows := hRows T.fc T.mdFittingLayBundles aBits
  have aBegun := hBegun B T.fc T.mdFittingBegun aNext T.mBeg
  have aCount := hCount B T.fc T.mdFittingCountOn aNext
  have aInit := hInit B T.fc T.iFit aStick aRows aBegun aCount
  have aFitting := hFitting T.pdFitting nKept aInit T.cF
  have aFirst := hFirst B T.fc T.pdFirstIn aMany aGone
  have aRB := hRowsB B T.fc T.mdFittingRowsBetween aGone T.mTold
  have aOrders := hOrders B T.fc T.tm T.pdOrders aFitting aMany aRB T.mTold
  have aTold := hTold B T.fc T.pdToldOrder aFitting aMany aFirst
  have aNs : HasX P w K mg base (cNs K) 1 ["self", "places"] (spNs K) := hNs T.iNs T.gw T.we
  have aRen : Has P w K mg base CX0 "renamed" 1 ["some", "thread", "new"] spRenamed := hRenamed B T.pdRenamed
  have aTied := hTied B T.nf T.ns T.pdTied nOthers nThread nTold aPIn aRen aNs
  have lCell : GCell P w K mg base := hCell B T.pdLawCell
  have lOrd := hOrd B T.pdLawOrder lCell
  have lTurn := hTurn B T.pdLawTurned lCell
  have lKept := hLK B T.pdLawKept lCell lTurn
  have lReed := hReed B T.pdLawReeded lCell
  have lThr := hThr B T.pdLawThreaded lCell
  have lOrders := hLO T.tm T.x1 T.pdLawOrders aOrders
  have lTold := hLT B T.nf T.ns T.x2 T.x3 T.x4 T.pdLawTold aTied
  have lRight := hKR B T.pdLawKeptRight aPlaces aFits lOrders aTold
  exact lawBody B lCell lOrd lKept lReed lThr aWithout aPlaces lRight lTold
end

theorem lawFn {P : Program} {w : World} {K : PySem.W.Frag} {mg : Str → Option Value} {h : Heap} {f : Addr} (X : K.In h) (G : h.Ns mainGlobals mg) (hfa : mg ("law" : Str) = some (.ref f)) (c : He.SaysD fa fn K) (e : ExFacts K) :
    ∃ fd : FuncData, (∀ (s : Shared) (v : Value), BindsTo s fd ⟨[v], []⟩ [("_law_script", v)]) ∧ ∀ base : Heap, K.In base → base.Ns mainGlobals mg → FnOk P w K mg base CX0 12 f fd ["_law_script"] (spLaw K) := by
  have T := facts X G c e
  obtain ⟨fd, F⟩ := c.def_ 54 (d := dLaw) rfl
  have e2 := hfa.symm.trans (He.glo_ok X G (c.fact 44 (f := .glo "law") rfl))
  cases e2
  have b := FunD.bindsA (ps := ["_law_script"]) F fun _ _ _ _ _ _ us hl => match us, hl with | [_], _ => rfl
  exact ⟨fd, fun s v => b s [v] rfl, fun base _ _ => F.ok scLaw (fun vs H Q E ⟨_, _, z, _⟩ => by rw [z]; rfl) fun cdv A outer s H vs Q E hr z => ⟨_, PSs.nox pss_wss, lawOk T _ cdv A outer s H vs Q E hr z⟩⟩
end Wk
open PySem PySem.W PySem.Calls PyProof.Rows
theorem PySem.Challenge.cw_warpkeep_k64_whole_each_asks_alone_holds : PySem.Challenge.rw_warpkeep_k64_whole_each_asks_alone.Holds := by
  w_on; o_law
  refine HandSHeadRun.head_any (r := OpenLaw.row PySem.Challenge.rw_warpkeep_k64_whole_each_asks_alone) (q := view (OpenLaw.row PySem.Challenge.rw_warpkeep_k64_whole_each_asks_alone).prog [73]) (H := Wk.hk) (ob := Wk.ob) (M := 100000) (loose := Wk.names) (d := HandSHeadRun.topDef (OpenLaw.row PySem.Challenge.rw_warpkeep_k64_whole_each_asks_alone).prog 73) (kwd := []) Wk.ob_eq
    (by kernel_rfl) (fun s => by kernel_rfl) Wk.run (by kernel_rfl) (by kernel_rfl) (by kernel_rfl) (by rfl) (by first | assumption | decide +kernel) (by decide +kernel) ⟨rfl, rfl, rfl, rfl, rfl, by decide +kernel⟩ ?hw ?hc
  case hw => w_witness2
  case hc =>
    refine L2.walk_ofE (l := PySem.Challenge.rw_warpkeep_k64_whole_each_asks_alone) (n := 63) (k := 12) (x := "_law_script") (CX := L2.CX0) rfl (by decide) (by kernel_rfl) ⟨rfl, by decide, by decide⟩ ?F (fun _ _ _ _ z => z)
    intro w mg fa h Y G hmg0
    obtain ⟨K, KX, c⟩ := Y
    have hmg : mg ("law" : PySem.Str) = some (.ref fa) := by
      have e : (HandSHeadRun.topDef (OpenLaw.row PySem.Challenge.rw_warpkeep_k64_whole_each_asks_alone).prog 73).name = ("law" : PySem.Str) := by kernel_rfl
      rw [← e]
      exact hmg0
    obtain ⟨fd, hb, hF⟩ := Wk.lawFn (P := (PySem.Challenge.rw_warpkeep_k64_whole_each_asks_alone).prog) (w := w) KX G hmg c.1 (Wk.exB_ok c.2)
    exact ⟨K, fd, Wk.spLaw K, KX, hb, fun H a ns hl _ hS => ⟨a, ns, rfl, hl, hS, fun _ => rfl⟩, hF⟩
