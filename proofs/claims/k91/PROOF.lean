import PyProof.Rows.All
import Wide.All
import OpenK.AllK
import Wide.FinOn
import HandS.ForMost
import HandS.Walk
import HandS.IsInst
import HandS.Deep
import HandS.OwnEq
import HandS.Codes
import HandS.Exc
import HandS.CallLocal
import HandS.Style
import HandS.WideBits
import HandS.More
import HandS.TryOnly
import HandS.Strs
import KE.SortData
import PyProof.ReprRoads
import PyProof.P3In
import PyProof.Rows.InDataRows
import PyProof.StrLawsRepr
import HandS.FStrTup
import PySem.Challenge.RW_panelfairs_k91_whole_texts_there_and_bac
set_option Elab.async false
set_option linter.all false
set_option maxRecDepth 100000
set_option maxHeartbeats 4000000
/-! The second layer: typed data over the abstract heap. -/
namespace D1
open PySem L2

/-- data of type α lies at the value v, in the heap's standing part -/
class Rp (α : Type) where
  rp : Hp → V → α → Prop
  rup : ∀ {H H' : Hp} {v : V} {a : α}, Same H H' → rp H v a → rp H' v a
open Rp

instance : Rp Int := ⟨fun _ v i => v = .int i, fun _ h => h⟩
instance : Rp Bool := ⟨fun _ v i => v = .bl i, fun _ h => h⟩
instance : Rp Str := ⟨fun _ v i => v = .str i, fun _ h => h⟩
instance : Rp Unit := ⟨fun _ v _ => v = .non, fun _ h => h⟩
theorem pmono {α β : Type} {F G : α → β → Prop} {l₁ : List α} {l₂ : List β} (h : Paired F l₁ l₂) (f : ∀ a b, F a b → G a b) : Paired G l₁ l₂ := Paired.mapP h f
instance {α : Type} [Rp α] : Rp (List α) := ⟨fun H v as => ∃ p xs, v = .ref p ∧ H p = some (.lst xs) ∧ Paired (rp H) xs as,
  fun s ⟨p, xs, e, h, q⟩ => ⟨p, xs, e, s _ _ h, pmono q fun _ _ => rup s⟩⟩
instance {α β : Type} [Rp α] [Rp β] : Rp (α × β) := ⟨fun H v ab => ∃ p x y, v = .ref p ∧ H p = some (.tup [x, y]) ∧ rp H x ab.1 ∧ rp H y ab.2,
  fun s ⟨p, x, y, e, h, q, r⟩ => ⟨p, x, y, e, s _ _ h, rup s q, rup s r⟩⟩
/-- a tuple of three -/
structure T3 (α β γ : Type) where
  a : α
  b : β
  c : γ
  deriving DecidableEq
instance {α β γ : Type} [Rp α] [Rp β] [Rp γ] : Rp (T3 α β γ) := ⟨fun H v t => ∃ p x y z, v = .ref p ∧ H p = some (.tup [x, y, z]) ∧ rp H x t.a ∧ rp H y t.b ∧ rp H z t.c,
  fun s ⟨p, x, y, z, e, h, q, r, u⟩ => ⟨p, x, y, z, e, s _ _ h, rup s q, rup s r, rup s u⟩⟩
instance {α : Type} [Rp α] : Rp (Option α) := ⟨fun H v o => match o with
  | none => v = .non
  | some a => rp H v a, fun {H H' v o} s h => by
  cases o with
  | none => exact h
  | some a => exact rup (α := α) s h⟩

/-- growth: G the standing part of H; M: what may have been written -/
structure GrM (M : Addr → Prop) (G H G' H' : Hp) : Prop where
  g : Same G G'
  h : ∀ b o, ¬ M b → H b = some o → H' b = some o
  s : Same G' H'
  f : ∀ b, G b = none → H b ≠ none → G' b = none
  d : ∀ b, H b ≠ none → H' b ≠ none
def M0 : Addr → Prop := fun _ => False
abbrev Gr := GrM M0
theorem Gr.hh {G H G' H' : Hp} (r : Gr G H G' H') : Same H H' := fun b o e => r.h b o (fun z => z) e
theorem GrM.refl {M : Addr → Prop} {G H : Hp} (s : Same G H) : GrM M G H G H := ⟨Same.refl G, fun _ _ _ e => e, s, fun _ e _ => e, fun _ e => e⟩
theorem GrM.trans {M : Addr → Prop} {G H G1 H1 G2 H2 : Hp} (a : GrM M G H G1 H1) (b : GrM M G1 H1 G2 H2) : GrM M G H G2 H2 :=
  ⟨a.g.trans b.g, fun c o m e => b.h c o m (a.h c o m e), b.s, fun c e n => b.f c (a.f c e n) (a.d c n), fun c n => b.d c (a.d c n)⟩
theorem GrM.mono {M N : Addr → Prop} {G H G1 H1 : Hp} (a : GrM M G H G1 H1) (h : ∀ b, M b → N b) : GrM N G H G1 H1 :=
  ⟨a.g, fun c o m e => a.h c o (fun z => m (h c z)) e, a.s, a.f, a.d⟩
theorem Gr.any {M : Addr → Prop} {G H G1 H1 : Hp} (a : Gr G H G1 H1) : GrM M G H G1 H1 := a.mono fun _ z => z.elim
theorem same_new {H : Hp} {p : Addr} {o : HO} (h : H p = none) : Same H (upd H p o) := fun a u e => by
  rw [upd_ne (ne_of_none e h)]; exact e
theorem upd_some {H : Hp} {p b : Addr} {o : HO} (h : H b ≠ none) : upd H p o b ≠ none := by
  unfold upd; split
  · exact fun z => by cases z
  · exact h
/-- a new standing object -/
theorem Gr.new {G H : Hp} {p : Addr} {o : HO} (s : Same G H) (h : H p = none) : Gr G H (upd G p o) (upd H p o) := by
  refine ⟨same_new (s.free h), fun b u _ e => ?_, fun b u e => ?_, fun b e n => ?_, fun b => upd_some⟩
  · rw [upd_ne (ne_of_none e h)]; exact e
  · unfold upd at e ⊢
    split
    · rename_i z; rw [if_pos z] at e; exact e
    · rename_i z; rw [if_neg z] at e; exact s b u e
  · rw [upd_ne (fun z => n (by rw [z]; exact h))]; exact e
/-- a new object that is not (yet) standing -/
theorem Gr.newM {G H : Hp} {p : Addr} {o : HO} (s : Same G H) (h : H p = none) : Gr G H G (upd H p o) := by
  refine ⟨Same.refl G, fun b u _ e => ?_, fun b u e => ?_, fun b e n => e, fun b => upd_some⟩
  · rw [upd_ne (ne_of_none e h)]; exact e
  · rw [upd_ne (ne_of_none (s b u e) h)]; exact s b u e
/-- a write to what is not standing -/
theorem GrM.put {M : Addr → Prop} {G H : Hp} {p : Addr} {o : HO} (s : Same G H) (h : G p = none) (m : M p) : GrM M G H G (upd H p o) := by
  refine ⟨Same.refl G, fun b u m' e => ?_, fun b u e => ?_, fun b e n => e, fun b => upd_some⟩
  · rw [upd_ne (fun z => m' (by rw [z]; exact m))]; exact e
  · rw [upd_ne (ne_of_none e h)]; exact s b u e

/-! ### weakest preconditions -/
def WE (X : Cx) (e : Expr) : TE := fun σ H Q => ∀ pins s, Inv X pins σ H s → wpAny (model X.prog X.w) X.A (eval e X.env) (EP X pins σ Q) X.xe s
def WT (X : Cx) (e : Expr) : TT := fun σ H Q => ∀ pins s, Inv X pins σ H s → wpAny (model X.prog X.w) X.A (isTrue e X.env (eval e X.env)) (TP X pins σ Q) X.xe s
def WW (X : Cx) (e : Expr) : TT := fun σ H Q => ∀ whole pins s, Inv X pins σ H s → wpAny (model X.prog X.w) X.A (isTrue e X.env whole) (TP X pins σ Q) X.xe s
def WS (X : Cx) (st : List Stmt) : TS := fun D σ H => ∀ pins s, Inv X pins σ H s → wpAny (model X.prog X.w) X.A (execs st X.env) (SP X pins D) X.xe s
theorem pe_we {X : Cx} {e : Expr} : PE X e (WE X e) := ⟨fun pins s _ _ _ I h => h pins s I⟩
theorem pt_wt {X : Cx} {e : Expr} : PT X e (WT X e) := ⟨fun pins s _ _ _ I h => h pins s I⟩
theorem pw_ww {X : Cx} {e : Expr} : PW X e (WW X e) := ⟨fun wh pins s _ _ _ I h => h wh pins s I⟩
theorem pss_ws {X : Cx} {st : List Stmt} : PSs X st (WS X st) := ⟨fun pins s _ _ _ I h => h pins s I⟩
theorem WE.of {X : Cx} {e : Expr} {t : TE} (h : PE X e t) {σ : St} {H : Hp} {Q : VK} (q : t σ H Q) : WE X e σ H Q := fun pins s I => h.run pins s σ H Q I q
theorem WT.of {X : Cx} {e : Expr} {t : TT} (h : PT X e t) {σ : St} {H : Hp} {Q : Bool → Hp → Prop} (q : t σ H Q) : WT X e σ H Q := fun pins s I => h.run pins s σ H Q I q
theorem WW.of {X : Cx} {e : Expr} {t : TT} (h : PW X e t) {σ : St} {H : Hp} {Q : Bool → Hp → Prop} (q : t σ H Q) : WW X e σ H Q := fun wh pins s I => h.run wh pins s σ H Q I q
theorem WS.of {X : Cx} {st : List Stmt} {t : TS} (h : PSs X st t) {σ : St} {H : Hp} {D : Ends} (q : t D σ H) : WS X st D σ H := fun pins s I => h.run pins s σ H D I q

/-! ### evaluation to data -/
def Ev {α : Type} [Rp α] (X : Cx) (e : Expr) (σ : St) (G : Hp) (a : α) : Prop :=
  ∀ G1 H1 (Q : VK), Same G G1 → Same G1 H1 → (∀ G2 H2 v, Gr G1 H1 G2 H2 → rp G2 v a → Q v H2) → WE X e σ H1 Q
def ET (X : Cx) (e : Expr) (σ : St) (G : Hp) (b : Bool) : Prop :=
  ∀ G1 H1 (Q : Bool → Hp → Prop), Same G G1 → Same G1 H1 → (∀ G2 H2, Gr G1 H1 G2 H2 → Q b H2) → WT X e σ H1 Q
def EW (X : Cx) (e : Expr) (σ : St) (G : Hp) (b : Bool) : Prop :=
  ∀ G1 H1 (Q : Bool → Hp → Prop), Same G G1 → Same G1 H1 → (∀ G2 H2, Gr G1 H1 G2 H2 → Q b H2) → WW X e σ H1 Q
theorem Ev.up {α : Type} [Rp α] {X : Cx} {e : Expr} {σ : St} {G G' : Hp} {a : α} (s : Same G G') (h : Ev X e σ G a) : Ev X e σ G' a := fun G1 H1 Q s1 => h G1 H1 Q (s.trans s1)
theorem ET.up {X : Cx} {e : Expr} {σ : St} {G G' : Hp} {a : Bool} (s : Same G G') (h : ET X e σ G a) : ET X e σ G' a := fun G1 H1 Q s1 => h G1 H1 Q (s.trans s1)
theorem EW.t {X : Cx} {e : Expr} {σ : St} {G : Hp} {a : Bool} (h : EW X e σ G a) : ET X e σ G a := fun G1 H1 Q s1 s2 k pins s I => h G1 H1 Q s1 s2 k _ pins s I

section
variable {α β γ : Type} [Rp α] [Rp β] [Rp γ] {X : Cx} {e a b c : Expr} {σ : St} {G : Hp} {pos : Pos}
theorem Ev.v (i : Nat) {x : Str} {v : V} {d : α} (h : σ[i]? = some (some v)) (r : rp G v d) (hN : X.N[i]? = some x := by rfl) (hv : Vis X.env.scope x := by first | exact Or.inl rfl | exact Or.inr (Or.inl rfl) | exact Or.inr (Or.inr rfl)) (hd : (x == ("__debug__" : Str)) = false := by decide)
    (hcd : (x == ("__classdict__" : Str)) = false := by decide) : Ev X (.Name x pos) σ G d := fun G1 H1 Q s1 s2 k =>
  WE.of (pv i hN hv hd hcd) ⟨v, h, k G1 H1 v (GrM.refl s2) (rup s1 r)⟩
theorem Ev.int {i j} : Ev X (.Constant (.int i) j pos) σ G (i : Int) := fun G1 H1 Q s1 s2 k => WE.of pe_int (k G1 H1 _ (GrM.refl s2) rfl)
theorem Ev.bl {i j} : Ev X (.Constant (.bool i) j pos) σ G (i : Bool) := fun G1 H1 Q s1 s2 k => WE.of pe_bl (k G1 H1 _ (GrM.refl s2) rfl)
theorem Ev.str {i j} : Ev X (.Constant (.str i) j pos) σ G (i : Str) := fun G1 H1 Q s1 s2 k => WE.of pe_str (k G1 H1 _ (GrM.refl s2) rfl)
theorem Ev.non {j} : Ev X (.Constant .none j pos) σ G () := fun G1 H1 Q s1 s2 k => WE.of pe_non (k G1 H1 _ (GrM.refl s2) rfl)
/-- a value as an option -/
theorem Ev.opt {d : α} (h : Ev X e σ G d) : Ev X e σ G (Option.some d) := fun G1 H1 Q s1 s2 k => h G1 H1 Q s1 s2 fun G2 H2 v g r => k G2 H2 v g r
theorem Ev.nonO {j} : Ev X (.Constant .none j pos) σ G (Option.none : Option α) := fun G1 H1 Q s1 s2 k => WE.of pe_non (k G1 H1 _ (GrM.refl s2) rfl)
theorem Ev.eq {d d' : α} (h : Ev X e σ G d) (q : d = d') : Ev X e σ G d' := q ▸ h
theorem ET.eq {d d' : Bool} (h : ET X e σ G d) (q : d = d') : ET X e σ G d' := q ▸ h
/-- a module's text constant -/
theorem Ev.gstr {x : Str} {z : Str} {t : Tok} (hm : X.mg x = Option.some (.str z t)) (hg : Gl X x := by rfl) (hd : (x == ("__debug__" : Str)) = false := by decide) : Ev X (.Name x pos) σ G (z : Str) := fun G1 H1 Q s1 s2 k =>
  WE.of (pe_glob (v := .str z) hg hm ⟨t, rfl⟩ hd) (k G1 H1 _ (GrM.refl s2) rfl)

/-- two places, one place: by values -/
def R2K (r : R2) (x : α) (y : β) (z : γ) : Prop := ∀ G H u v (Q : VK), Same G H → rp G u x → rp G v y → (∀ G2 H2 w, Gr G H G2 H2 → rp G2 w z → Q w H2) → r u v H Q
theorem Ev.op {op : Operator} {r : R2} {x : α} {y : β} {z : γ} (ho : OpR X (binaryOp op) r) (hr : R2K r x y z) (ha : Ev X a σ G x) (hb : Ev X b σ G y) : Ev X (.BinOp a op b pos) σ G z := fun G1 H1 Q s1 s2 k =>
  WE.of (pe_op ho pe_we pe_we) (ha G1 H1 _ s1 s2 fun G2 H2 v g r1 => hb G2 H2 _ (s1.trans g.g) g.s fun G3 H3 u g2 r2 => hr G3 H3 v u Q g2.s (rup g2.g r1) r2 fun G4 H4 w g3 r3 => k G4 H4 w ((g.trans g2).trans g3) r3)
theorem Ev.cmp {op : CmpOp} {r : R2} {x : α} {y : β} {z : γ} (ho : OpR X (compareOp op) r) (hm : behindInMarks op b = false) (hr : R2K r x y z) (ha : Ev X a σ G x) (hb : Ev X b σ G y) : Ev X (.Compare a [op] [b] pos) σ G z := fun G1 H1 Q s1 s2 k =>
  WE.of (pe_cmpR ho pe_we pe_we hm) (ha G1 H1 _ s1 s2 fun G2 H2 v g r1 => hb G2 H2 _ (s1.trans g.g) g.s fun G3 H3 u g2 r2 => hr G3 H3 v u Q g2.s (rup g2.g r1) r2 fun G4 H4 w g3 r3 => k G4 H4 w ((g.trans g2).trans g3) r3)
theorem ET.cmp {op : CmpOp} {r : R2} {x : α} {y : β} {z : Bool} (ho : OpR X (compareOp op) r) (hm : behindInMarks op b = false) (hr : R2K r x y z) (ha : Ev X a σ G x) (hb : Ev X b σ G y) : ET X (.Compare a [op] [b] pos) σ G z := fun G1 H1 Q s1 s2 k =>
  WT.of (pt_cmpR ho pe_we pe_we hm) (ha G1 H1 _ s1 s2 fun G2 H2 v g r1 => hb G2 H2 _ (s1.trans g.g) g.s fun G3 H3 u g2 r2 => hr G3 H3 v u _ g2.s (rup g2.g r1) r2 fun G4 H4 w g3 r3 => ⟨z, r3, k G4 H4 ((g.trans g2).trans g3)⟩)
/-- a bool's expression as a test -/
theorem ET.val {z : Bool} (h : Ev X e σ G z) (he : ∀ whole, isTrue e X.env whole = (do let v ← whole; standAt e.pos; holding [v] (truthy v)) := by intro _; rfl) : ET X e σ G z := fun G1 H1 Q s1 s2 k =>
  WT.of (pt_val pe_we he) (h G1 H1 _ s1 s2 fun G2 H2 v g r => ⟨z, r, k G2 H2 g⟩)
theorem ET.not {z : Bool} (h : ET X e σ G z) : ET X (.UnaryOp .Not e pos) σ G (!z) := fun G1 H1 Q s1 s2 k =>
  WT.of (pt_not pt_wt) (h G1 H1 _ s1 s2 fun G2 H2 g => k G2 H2 g)
theorem Ev.not {z : Bool} (h : Ev X e σ G z) : Ev X (.UnaryOp .Not e pos) σ G (!z) := fun G1 H1 Q s1 s2 k =>
  WE.of (pe_not pe_we) (h G1 H1 _ s1 s2 fun G2 H2 v g r => ⟨z, r, k G2 H2 _ g rfl⟩)
variable {rest : List Expr}
theorem EW.or1 {z : Bool} (h : ET X a σ G z) : EW X (.BoolOp .Or [a] pos) σ G z := fun G1 H1 Q s1 s2 k => WW.of (pw_or1 pt_wt) (h G1 H1 _ s1 s2 k)
theorem EW.and1 {z : Bool} (h : ET X a σ G z) : EW X (.BoolOp .And [a] pos) σ G z := fun G1 H1 Q s1 s2 k => WW.of (pw_and1 pt_wt) (h G1 H1 _ s1 s2 k)
theorem EW.or {y z : Bool} (h : ET X a σ G y) (h2 : y = false → EW X (.BoolOp .Or (b :: rest) pos) σ G z) : EW X (.BoolOp .Or (a :: b :: rest) pos) σ G (y || z) := fun G1 H1 Q s1 s2 k =>
  WW.of (pw_or pt_wt pw_ww) (h G1 H1 _ s1 s2 fun G2 H2 g => by
    cases y with
    | true => exact k G2 H2 g
    | false => exact h2 rfl G2 H2 _ (s1.trans g.g) g.s fun G3 H3 g2 => k G3 H3 (g.trans g2))
theorem EW.and {y z : Bool} (h : ET X a σ G y) (h2 : y = true → EW X (.BoolOp .And (b :: rest) pos) σ G z) : EW X (.BoolOp .And (a :: b :: rest) pos) σ G (y && z) := fun G1 H1 Q s1 s2 k =>
  WW.of (pw_and pt_wt pw_ww) (h G1 H1 _ s1 s2 fun G2 H2 g => by
    cases y with
    | false => exact k G2 H2 g
    | true => exact h2 rfl G2 H2 _ (s1.trans g.g) g.s fun G3 H3 g2 => k G3 H3 (g.trans g2))
theorem Ev.one {op} {z : α} (h : Ev X a σ G z) : Ev X (.BoolOp op [a] pos) σ G z := fun G1 H1 Q s1 s2 k => WE.of (pe_one pe_we) (h G1 H1 _ s1 s2 k)
theorem Ev.and {y z : Bool} (h : Ev X a σ G y) (h2 : y = true → Ev X (.BoolOp .And (b :: rest) pos) σ G z) : Ev X (.BoolOp .And (a :: b :: rest) pos) σ G (y && z) := fun G1 H1 Q s1 s2 k =>
  WE.of (pe_and pe_we pe_we) (h G1 H1 _ s1 s2 fun G2 H2 v g r => ⟨y, r, by
    cases y with
    | false => exact k G2 H2 _ g rfl
    | true => exact h2 rfl G2 H2 _ (s1.trans g.g) g.s fun G3 H3 v g2 r2 => k G3 H3 v (g.trans g2) r2⟩)
theorem Ev.or {y z : Bool} (h : Ev X a σ G y) (h2 : y = false → Ev X (.BoolOp .Or (b :: rest) pos) σ G z) : Ev X (.BoolOp .Or (a :: b :: rest) pos) σ G (y || z) := fun G1 H1 Q s1 s2 k =>
  WE.of (pe_or pe_we pe_we) (h G1 H1 _ s1 s2 fun G2 H2 v g r => ⟨y, r, by
    cases y with
    | true => exact k G2 H2 _ g rfl
    | false => exact h2 rfl G2 H2 _ (s1.trans g.g) g.s fun G3 H3 v g2 r2 => k G3 H3 v (g.trans g2) r2⟩)
theorem Ev.ite {y : Bool} {z z' : α} (h : ET X c σ G y) (h1 : y = true → Ev X a σ G z) (h2 : y = false → Ev X b σ G z') : Ev X (.IfExp c a b pos) σ G (if y = true then z else z') := fun G1 H1 Q s1 s2 k =>
  WE.of (pe_ifExp pt_wt pe_we pe_we) (h G1 H1 _ s1 s2 fun G2 H2 g => by
    cases y with
    | true => exact h1 rfl G2 H2 _ (s1.trans g.g) g.s fun G3 H3 v g2 r => k G3 H3 v (g.trans g2) r
    | false => exact h2 rfl G2 H2 _ (s1.trans g.g) g.s fun G3 H3 v g2 r => k G3 H3 v (g.trans g2) r)
end
end D1

namespace D1
open PySem L2 Rp

/-! ### data as PyData -/
class Da (α : Type) [Rp α] where
  toD : α → PyData
  lay : α → Prop
  dep : Nat
  dp : ∀ {K : PySem.W.Frag} {H : Hp} {v : V} {a : α}, rp H v a → Dp K H v (toD a)
  can : ∀ a : α, lay a → (toD a).canLay0 = true
  dpt : ∀ a : α, (toD a).depth ≤ dep
/-- equality of the data is == -/
class De (α : Type) [Rp α] [Da α] [DecidableEq α] where
  eqv : ∀ a b : α, PyData.eqv (Da.toD a) (Da.toD b) = decide (a = b)
open Da De
instance : Da Int := ⟨.int, fun _ => True, 0, fun h => by cases h; exact .int _, fun a _ => by simp [PyData.canLay0], fun a => by simp [PyData.depth]⟩
instance : Da Bool := ⟨.bool, fun _ => True, 0, fun h => by cases h; exact .bl _, fun a _ => by simp [PyData.canLay0], fun a => by simp [PyData.depth]⟩
instance : Da Str := ⟨.str, fun x => PyData.strOk x = true, 0, fun h => by cases h; exact .str _, fun a h => by simpa [PyData.canLay0] using h, fun a => by simp [PyData.depth]⟩
theorem dpAll_of {α : Type} [Rp α] [Da α] {K : PySem.W.Frag} {H : Hp} : ∀ {xs : List V} {as : List α}, Paired (rp H) xs as → DpAll K H xs (as.map toD)
  | _, _, .nil => .nil
  | _, _, .cons r t => .cons (dp r) (dpAll_of t)
theorem canAll_of {α : Type} [Rp α] [Da α] : ∀ {as : List α}, (∀ a ∈ as, lay a) → PyData.canLayAll0 (as.map toD) = true
  | [], _ => by simp [PyData.canLayAll0]
  | a :: r, h => by
    simp only [List.map_cons, PyData.canLayAll0, Bool.and_eq_true]
    exact ⟨can a (h a (by simp)), canAll_of fun b hb => h b (by simp [hb])⟩
theorem dptAll_of {α : Type} [Rp α] [Da α] : ∀ {as : List α}, PyData.depthAll (as.map toD) ≤ dep α
  | [] => by simp [PyData.depthAll]
  | a :: r => by
    simp only [List.map_cons, PyData.depthAll]
    have h1 := dpt a
    have h2 := dptAll_of (as := r)
    omega
instance {α : Type} [Rp α] [Da α] : Da (List α) := ⟨fun as => .list (as.map toD), fun as => ∀ a ∈ as, lay a, dep α + 1,
  fun ⟨p, xs, e, h, q⟩ => by subst e; exact .lst (SqL.of h) (dpAll_of q),
  fun as h => by simp only [PyData.canLay0]; exact canAll_of h,
  fun as => by simp only [PyData.depth]; have := dptAll_of (as := as); omega⟩
instance {α β : Type} [Rp α] [Rp β] [Da α] [Da β] : Da (α × β) := ⟨fun ab => .tuple [toD ab.1, toD ab.2], fun ab => lay ab.1 ∧ lay ab.2, max (dep α) (dep β) + 1,
  fun ⟨p, x, y, e, h, q, r⟩ => by subst e; exact .tup (SqT.of h) (.cons (dp q) (.cons (dp r) .nil)),
  fun ab h => by simp only [PyData.canLay0, PyData.canLayAll0, Bool.and_eq_true]; exact ⟨can _ h.1, can _ h.2, trivial⟩,
  fun ab => by
    simp only [PyData.depth, PyData.depthAll]
    have h1 := dpt ab.1
    have h2 := dpt ab.2
    omega⟩
instance {α β γ : Type} [Rp α] [Rp β] [Rp γ] [Da α] [Da β] [Da γ] : Da (T3 α β γ) := ⟨fun t => .tuple [toD t.a, toD t.b, toD t.c], fun t => lay t.a ∧ lay t.b ∧ lay t.c, max (dep α) (max (dep β) (dep γ)) + 1,
  fun ⟨p, x, y, z, e, h, q, r, u⟩ => by subst e; exact .tup (SqT.of h) (.cons (dp q) (.cons (dp r) (.cons (dp u) .nil))),
  fun t h => by simp only [PyData.canLay0, PyData.canLayAll0, Bool.and_eq_true]; exact ⟨can _ h.1, can _ h.2.1, can _ h.2.2, trivial⟩,
  fun t => by
    simp only [PyData.depth, PyData.depthAll]
    have h1 := dpt t.a
    have h2 := dpt t.b
    have h3 := dpt t.c
    omega⟩
instance {α : Type} [Rp α] [Da α] : Da (Option α) := ⟨fun o => match o with
  | none => .none
  | some a => toD a, fun o => ∀ a, o = some a → lay a, dep α,
  fun {K H v o} h => by
    cases o with
    | none => cases (show v = .non from h); exact .non
    | some a => exact dp (show rp H v a from h),
  fun o h => by
    cases o with
    | none => simp [PyData.canLay0]
    | some a => exact can a (h a rfl),
  fun o => by
    cases o with
    | none => simp [PyData.depth]
    | some a => exact dpt a⟩
instance : De Int := ⟨fun a b => by show (a == b) = _; rw [Bool.eq_iff_iff]; simp⟩
instance : De Bool := ⟨fun a b => by show (a == b) = _; rw [Bool.eq_iff_iff]; simp⟩
instance : De Str := ⟨fun a b => by show (a == b) = _; rw [Bool.eq_iff_iff]; simp⟩
theorem eqvAll_of {α : Type} [Rp α] [Da α] [DecidableEq α] [De α] : ∀ as bs : List α, PyData.eqvAll (as.map toD) (bs.map toD) = decide (as = bs)
  | [], [] => by simp [PyData.eqvAll]
  | [], b :: bs => by simp [PyData.eqvAll]
  | a :: as, [] => by simp [PyData.eqvAll]
  | a :: as, b :: bs => by
    simp only [List.map_cons, PyData.eqvAll, eqvAll_of as bs, eqv a b, List.cons.injEq, Bool.decide_and]
instance {α : Type} [Rp α] [Da α] [DecidableEq α] [De α] : De (List α) := ⟨fun as bs => by show PyData.eqv (.list _) (.list _) = _; simp only [PyData.eqv]; exact eqvAll_of as bs⟩
instance {α β : Type} [Rp α] [Rp β] [Da α] [Da β] [DecidableEq α] [DecidableEq β] [De α] [De β] : De (α × β) := ⟨fun a b => by
  show PyData.eqv (.tuple _) (.tuple _) = _
  simp only [PyData.eqv, PyData.eqvAll, eqv, Bool.and_true, Prod.ext_iff, Bool.decide_and]⟩
instance {α β γ : Type} [Rp α] [Rp β] [Rp γ] [Da α] [Da β] [Da γ] [DecidableEq α] [DecidableEq β] [DecidableEq γ] [De α] [De β] [De γ] : De (T3 α β γ) := ⟨fun a b => by
  show PyData.eqv (.tuple _) (.tuple _) = _
  obtain ⟨a1, a2, a3⟩ := a
  obtain ⟨b1, b2, b3⟩ := b
  simp only [PyData.eqv, PyData.eqvAll, eqv, Bool.and_true, T3.mk.injEq, Bool.decide_and]⟩
/-- None is unlike the data of these -/
class Dn (α : Type) [Rp α] [Da α] where
  l : ∀ a : α, PyData.eqv .none (toD a) = false
  r : ∀ a : α, PyData.eqv (toD a) .none = false
instance : Dn Int := ⟨fun _ => rfl, fun _ => rfl⟩
instance : Dn Bool := ⟨fun _ => rfl, fun _ => rfl⟩
instance : Dn Str := ⟨fun _ => rfl, fun _ => rfl⟩
instance {α : Type} [Rp α] [Da α] : Dn (List α) := ⟨fun _ => by show PyData.eqv .none (.list _) = _; simp [PyData.eqv], fun _ => by show PyData.eqv (.list _) .none = _; simp [PyData.eqv]⟩
instance {α β : Type} [Rp α] [Rp β] [Da α] [Da β] : Dn (α × β) := ⟨fun _ => by show PyData.eqv .none (.tuple _) = _; simp [PyData.eqv], fun _ => by show PyData.eqv (.tuple _) .none = _; simp [PyData.eqv]⟩
instance {α β γ : Type} [Rp α] [Rp β] [Rp γ] [Da α] [Da β] [Da γ] : Dn (T3 α β γ) := ⟨fun _ => by show PyData.eqv .none (.tuple _) = _; simp [PyData.eqv], fun _ => by show PyData.eqv (.tuple _) .none = _; simp [PyData.eqv]⟩
instance {α : Type} [Rp α] [Da α] [DecidableEq α] [De α] [Dn α] : De (Option α) := ⟨fun a b => by
  cases a with
  | none => cases b with
    | none => show PyData.eqv .none .none = _; simp [PyData.eqv]
    | some b => show PyData.eqv .none (toD b) = _; rw [Dn.l]; simp
  | some a => cases b with
    | none => show PyData.eqv (toD a) .none = _; rw [Dn.r]; simp
    | some b => show PyData.eqv (toD a) (toD b) = _; rw [eqv]; simp⟩
theorem shaped_of {α : Type} [Rp α] [Da α] {a : α} (h : lay a) (hd : dep α ≤ 64) : SeqAt.shaped (toD a) = true := by
  unfold SeqAt.shaped
  rw [can a h]
  have := dpt a
  simp only [Bool.true_and, decide_eq_true_eq]
  omega

/-! ### the rules of operations -/
section
variable {X : Cx}
theorem r2_add {i j : Int} : R2K (rI0 fun i j => .int (i + j)) i j (i + j) := fun G H u v Q s r1 r2 k => by
  cases r1; cases r2; exact ⟨_, _, rfl, rfl, k _ _ _ (GrM.refl s) rfl⟩
theorem r2_sub {i j : Int} : R2K (rI0 fun i j => .int (i - j)) i j (i - j) := fun G H u v Q s r1 r2 k => by
  cases r1; cases r2; exact ⟨_, _, rfl, rfl, k _ _ _ (GrM.refl s) rfl⟩
theorem r2_I {C : Int → Int → Prop} {g : Int → Int → Int} {i j : Int} (c : C i j) : R2K (rI C fun i j => .int (g i j)) i j (g i j) := fun G H u v Q s r1 r2 k => by
  cases r1; cases r2; exact ⟨_, _, rfl, rfl, c, k _ _ _ (GrM.refl s) rfl⟩
theorem r2_B {g : Int → Int → Bool} {i j : Int} : R2K (rI0 fun i j => .bl (g i j)) i j (g i j) := fun G H u v Q s r1 r2 k => by
  cases r1; cases r2; exact ⟨_, _, rfl, rfl, k _ _ _ (GrM.refl s) rfl⟩
theorem r2_addS {x y : Str} (h : x.length + y.length ≤ sizeLine) : R2K (fun x y H Q => ∃ i j, x = .str i ∧ y = .str j ∧ i.length + j.length ≤ sizeLine ∧ Q (.str (i ++ j)) H) x y (x ++ y) := fun G H u v Q s r1 r2 k => by
  cases r1; cases r2; exact ⟨_, _, rfl, rfl, h, k _ _ _ (GrM.refl s) rfl⟩
theorem r2_cat {α : Type} [Rp α] {x y : List α} (h : x.length + y.length ≤ sizeLine) : R2K rCat x y (x ++ y) := fun G H u v Q s ⟨p, xs, e1, h1, q1⟩ ⟨p2, ys, e2, h2, q2⟩ k => by
  subst e1; subst e2
  refine ⟨p, p2, xs, ys, rfl, rfl, s _ _ h1, s _ _ h2, by rw [q1.length, q2.length]; exact h, fun q hq => ?_⟩
  have g := Gr.new (o := .lst (xs ++ ys)) s hq
  refine k _ _ _ g ⟨q, xs ++ ys, rfl, upd_same, ?_⟩
  exact PairedAppend (pmono q1 fun _ _ => rup g.g) (pmono q2 fun _ _ => rup g.g)
where
  PairedAppend {α β : Type} {F : α → β → Prop} : ∀ {l l' : List α} {m m' : List β}, Paired F l m → Paired F l' m' → Paired F (l ++ l') (m ++ m')
    | _, _, _, _, .nil, h => h
    | _, _, _, _, .cons r t, h => .cons r (PairedAppend t h)
theorem r2_eqD {K : PySem.W.Frag} {α : Type} [Rp α] [Da α] [DecidableEq α] [De α] {x y : α} (hx : lay x) (hy : lay y) (hd : dep α ≤ 64 := by decide) : R2K (rEqD K) x y (decide (x = y)) := fun G H u v Q s r1 r2 k =>
  ⟨toD x, toD y, dp (rup s r1), dp (rup s r2), shaped_of hx hd, shaped_of hy hd, by rw [eqv]; exact k _ _ _ (GrM.refl s) rfl⟩
theorem r2_neD {K : PySem.W.Frag} {α : Type} [Rp α] [Da α] [DecidableEq α] [De α] {x y : α} (hx : lay x) (hy : lay y) (hd : dep α ≤ 64 := by decide) : R2K (rNeD K) x y (!decide (x = y)) := fun G H u v Q s r1 r2 k =>
  ⟨toD x, toD y, dp (rup s r1), dp (rup s r2), shaped_of hx hd, shaped_of hy hd, by rw [eqv]; exact k _ _ _ (GrM.refl s) rfl⟩
theorem any_eqv {α : Type} [Rp α] [Da α] [DecidableEq α] [De α] (x : α) : ∀ ys : List α, (ys.map toD).any (fun z => PyData.eqv z (toD x)) = decide (x ∈ ys)
  | [] => by simp
  | y :: ys => by
    rw [List.map_cons, List.any_cons, any_eqv x ys, eqv, Bool.eq_iff_iff]
    simp only [Bool.or_eq_true, decide_eq_true_eq, List.mem_cons]
    exact ⟨fun h => h.imp Eq.symm id, fun h => h.imp Eq.symm id⟩
theorem r2_inD {K : PySem.W.Frag} {α : Type} [Rp α] [Da α] [DecidableEq α] [De α] {x : α} {ys : List α} (hx : lay x) (hy : lay ys) (hd : dep α ≤ 63 := by decide) : R2K (rInD K) x ys (decide (x ∈ ys)) := fun G H u v Q s r1 r2 k =>
  ⟨toD x, ys.map toD, dp (rup s r1), dp (a := ys) (rup s r2), shaped_of hx (Nat.le_succ_of_le hd), shaped_of (a := ys) hy (Nat.succ_le_succ hd), by rw [any_eqv]; exact k _ _ _ (GrM.refl s) rfl⟩
theorem r2_niD {K : PySem.W.Frag} {α : Type} [Rp α] [Da α] [DecidableEq α] [De α] {x : α} {ys : List α} (hx : lay x) (hy : lay ys) (hd : dep α ≤ 63 := by decide) : R2K (rNotInD K) x ys (!decide (x ∈ ys)) := fun G H u v Q s r1 r2 k =>
  ⟨toD x, ys.map toD, dp (rup s r1), dp (a := ys) (rup s r2), shaped_of hx (Nat.le_succ_of_le hd), shaped_of (a := ys) hy (Nat.succ_le_succ hd), by rw [any_eqv]; exact k _ _ _ (GrM.refl s) rfl⟩
/-- one sign in a text -/
theorem r2_niS {c : Nat} {z : Str} : R2K (fun x y H Q => ∃ (c : Nat) (z : Str), x = .str ⟨#[c]⟩ ∧ y = .str z ∧ Q (.bl (!decide (c ∈ z.cps.toList))) H) (⟨#[c]⟩ : Str) z (!decide (c ∈ z.cps.toList)) := fun G H u v Q s r1 r2 k => by
  cases r1; cases r2; exact ⟨_, _, rfl, rfl, k _ _ _ (GrM.refl s) rfl⟩
end

section
variable {α β γ δ : Type} [Rp α] [Rp β] [Rp γ] [Rp δ] {X : Cx} {e a b c : Expr} {σ : St} {G : Hp} {pos p : Pos}
theorem Ev.add {i j : Int} (ha : Ev X a σ G i) (hb : Ev X b σ G j) : Ev X (.BinOp a .Add b pos) σ G (i + j) := Ev.op op_add r2_add ha hb
theorem Ev.sub {i j : Int} (ha : Ev X a σ G i) (hb : Ev X b σ G j) : Ev X (.BinOp a .Sub b pos) σ G (i - j) := Ev.op op_sub r2_sub ha hb
theorem Ev.addS {i j : Str} (ha : Ev X a σ G i) (hb : Ev X b σ G j) (h : i.length + j.length ≤ sizeLine) : Ev X (.BinOp a .Add b pos) σ G (i ++ j) := Ev.op op_add_str (r2_addS h) ha hb
theorem Ev.cat {i j : List α} (ha : Ev X a σ G i) (hb : Ev X b σ G j) (h : i.length + j.length ≤ sizeLine) : Ev X (.BinOp a .Add b pos) σ G (i ++ j) := Ev.op op_cat (r2_cat h) ha hb
theorem Ev.lt {i j : Int} (ha : Ev X a σ G i) (hb : Ev X b σ G j) : Ev X (.Compare a [.Lt] [b] pos) σ G (decide (i < j)) := Ev.cmp op_lt (nomark _) r2_B ha hb
theorem ET.lt {i j : Int} (ha : Ev X a σ G i) (hb : Ev X b σ G j) : ET X (.Compare a [.Lt] [b] pos) σ G (decide (i < j)) := ET.cmp op_lt (nomark _) r2_B ha hb
theorem ET.gt {i j : Int} (ha : Ev X a σ G i) (hb : Ev X b σ G j) : ET X (.Compare a [.Gt] [b] pos) σ G (decide (j < i)) := ET.cmp op_gt (nomark _) r2_B ha hb
theorem Ev.gt {i j : Int} (ha : Ev X a σ G i) (hb : Ev X b σ G j) : Ev X (.Compare a [.Gt] [b] pos) σ G (decide (j < i)) := Ev.cmp op_gt (nomark _) r2_B ha hb
theorem Ev.eqD [Da α] [DecidableEq α] [De α] {i j : α} (hu : X.A.units + 64 < cLine) (ha : Ev X a σ G i) (hb : Ev X b σ G j) (li : lay i) (lj : lay j) (hd : dep α ≤ 64 := by decide) : Ev X (.Compare a [.Eq] [b] pos) σ G (decide (i = j)) := Ev.cmp (op_eqD hu) (nomark _) (r2_eqD li lj hd) ha hb
theorem ET.eqD [Da α] [DecidableEq α] [De α] {i j : α} (hu : X.A.units + 64 < cLine) (ha : Ev X a σ G i) (hb : Ev X b σ G j) (li : lay i) (lj : lay j) (hd : dep α ≤ 64 := by decide) : ET X (.Compare a [.Eq] [b] pos) σ G (decide (i = j)) := ET.cmp (op_eqD hu) (nomark _) (r2_eqD li lj hd) ha hb
theorem Ev.neD [Da α] [DecidableEq α] [De α] {i j : α} (hu : X.A.units + 64 < cLine) (ha : Ev X a σ G i) (hb : Ev X b σ G j) (li : lay i) (lj : lay j) (hd : dep α ≤ 64 := by decide) : Ev X (.Compare a [.NotEq] [b] pos) σ G (!decide (i = j)) := Ev.cmp (op_neD hu) (nomark _) (r2_neD li lj hd) ha hb
theorem ET.neD [Da α] [DecidableEq α] [De α] {i j : α} (hu : X.A.units + 64 < cLine) (ha : Ev X a σ G i) (hb : Ev X b σ G j) (li : lay i) (lj : lay j) (hd : dep α ≤ 64 := by decide) : ET X (.Compare a [.NotEq] [b] pos) σ G (!decide (i = j)) := ET.cmp (op_neD hu) (nomark _) (r2_neD li lj hd) ha hb
theorem Ev.inD [Da α] [DecidableEq α] [De α] {i : α} {j : List α} (hu : X.A.units + 65 < cLine) (ha : Ev X a σ G i) (hb : Ev X b σ G j) (li : lay i) (lj : lay j) (hm : behindInMarks .In b = false := by rfl) (hd : dep α ≤ 63 := by decide) : Ev X (.Compare a [.In] [b] pos) σ G (decide (i ∈ j)) := Ev.cmp (op_inD hu) hm (r2_inD li lj hd) ha hb
theorem ET.inD [Da α] [DecidableEq α] [De α] {i : α} {j : List α} (hu : X.A.units + 65 < cLine) (ha : Ev X a σ G i) (hb : Ev X b σ G j) (li : lay i) (lj : lay j) (hm : behindInMarks .In b = false := by rfl) (hd : dep α ≤ 63 := by decide) : ET X (.Compare a [.In] [b] pos) σ G (decide (i ∈ j)) := ET.cmp (op_inD hu) hm (r2_inD li lj hd) ha hb
theorem Ev.niD [Da α] [DecidableEq α] [De α] {i : α} {j : List α} (hu : X.A.units + 65 < cLine) (ha : Ev X a σ G i) (hb : Ev X b σ G j) (li : lay i) (lj : lay j) (hm : behindInMarks .NotIn b = false := by rfl) (hd : dep α ≤ 63 := by decide) : Ev X (.Compare a [.NotIn] [b] pos) σ G (!decide (i ∈ j)) := Ev.cmp (op_notInD hu) hm (r2_niD li lj hd) ha hb
theorem ET.niD [Da α] [DecidableEq α] [De α] {i : α} {j : List α} (hu : X.A.units + 65 < cLine) (ha : Ev X a σ G i) (hb : Ev X b σ G j) (li : lay i) (lj : lay j) (hm : behindInMarks .NotIn b = false := by rfl) (hd : dep α ≤ 63 := by decide) : ET X (.Compare a [.NotIn] [b] pos) σ G (!decide (i ∈ j)) := ET.cmp (op_notInD hu) hm (r2_niD li lj hd) ha hb
theorem ET.niS {i : Nat} {j : Str} (ha : Ev X a σ G (⟨#[i]⟩ : Str)) (hb : Ev X b σ G j) (hm : behindInMarks .NotIn b = false := by rfl) : ET X (.Compare a [.NotIn] [b] pos) σ G (!decide (i ∈ j.cps.toList)) := ET.cmp op_notIn_sign hm r2_niS ha hb

/-! ### displays -/
theorem small_sz {n : Nat} (h : n ≤ 1000 := by decide) : n ≤ sizeLine := Nat.le_trans h (by decide)
theorem Ev.nil : Ev X (.List [] pos) σ G ([] : List α) := fun G1 H1 Q s1 s2 k => WE.of (pe_lst pa_nil) ⟨small_sz, fun q hq =>
  k _ _ _ (Gr.new (o := .lst []) s2 hq) ⟨q, [], rfl, upd_same, .nil⟩⟩
/-- the items of a display, of one type -/
def EL (X : Cx) (es : List Expr) (σ : St) (G : Hp) (as : List α) : Prop := ∀ G1 H1 (Q : List V → Hp → Prop), Same G G1 → Same G1 H1 → (∀ G2 H2 vs, Gr G1 H1 G2 H2 → Paired (rp G2) vs as → Q vs H2) → ∀ pos pins s, Inv X pins σ H1 s → wpAny (model X.prog X.w) X.A (spliced (backTo pos (starEach es X.env))) (AP X pins σ Q) X.xe s
theorem EL.nil : EL X [] σ G ([] : List α) := fun G1 H1 Q s1 s2 k pos pins s I => pa_nil.run pos pins s σ H1 Q I (k G1 H1 [] (GrM.refl s2) .nil)
theorem EL.cons {es : List Expr} {x : α} {xs : List α} (h : Ev X e σ G x) (t : EL X es σ G xs) (hs : starEach (e :: es) X.env = (false, eval e X.env) :: starEach es X.env := by rfl) : EL X (e :: es) σ G (x :: xs) := fun G1 H1 Q s1 s2 k pos pins s I =>
  (pa_cons (te := WE X e) (t := fun σ' H' Q' => ∀ pos pins s, Inv X pins σ' H' s → wpAny (model X.prog X.w) X.A (spliced (backTo pos (starEach es X.env))) (AP X pins σ' Q') X.xe s) pe_we ⟨fun pos pins s σ H Q I h => h pos pins s I⟩ hs).run pos pins s σ H1 Q I
    (h G1 H1 _ s1 s2 fun G2 H2 v g r => t G2 H2 _ (s1.trans g.g) g.s fun G3 H3 vs g2 r2 => k G3 H3 (v :: vs) (g.trans g2) (.cons (rup g2.g r) r2))
theorem Ev.lst {es : List Expr} {xs : List α} (t : EL X es σ G xs) (hz : xs.length ≤ 1000 := by decide) : Ev X (.List es pos) σ G xs := fun G1 H1 Q s1 s2 k =>
  WE.of (pe_lst (t := fun σ' H' Q' => ∀ pos pins s, Inv X pins σ' H' s → wpAny (model X.prog X.w) X.A (spliced (backTo pos (starEach es X.env))) (AP X pins σ' Q') X.xe s) ⟨fun pos pins s σ H Q I h => h pos pins s I⟩)
    (t G1 H1 _ s1 s2 fun G2 H2 vs g r => ⟨by rw [r.length]; exact small_sz hz, fun q hq => by
      have g2 := Gr.new (o := .lst vs) g.s hq
      exact k _ _ _ (g.trans g2) ⟨q, vs, rfl, upd_same, pmono r fun _ _ => rup g2.g⟩⟩)
/-- a tuple of one type's items, held as a list's would be: for `in' alone -/
theorem Ev.tup2 {x : α} {y : β} {z} (ha : Ev X a σ G x) (hb : Ev X b σ G y) (hs : starEach [a, b] X.env = (false, eval a X.env) :: starEach [b] X.env := by rfl) (hs2 : starEach [b] X.env = (false, eval b X.env) :: starEach [] X.env := by rfl) : Ev X (.Tuple [a, b] z pos) σ G (x, y) := fun G1 H1 Q s1 s2 k =>
  WE.of (pe_tup (pa_cons pe_we (pa_cons pe_we pa_nil hs2) hs)) (ha G1 H1 _ s1 s2 fun G2 H2 v g r => hb G2 H2 _ (s1.trans g.g) g.s fun G3 H3 u g2 r2 => ⟨small_sz (n := 2), fun q hq => by
    have g3 := Gr.new (o := .tup [v, u]) g2.s hq
    exact k _ _ _ ((g.trans g2).trans g3) ⟨q, v, u, rfl, upd_same, rup (g2.trans g3).g r, rup g3.g r2⟩⟩)
theorem Ev.tup3 {x : α} {y : β} {w : γ} {z} (ha : Ev X a σ G x) (hb : Ev X b σ G y) (hc : Ev X c σ G w) (hs : starEach [a, b, c] X.env = (false, eval a X.env) :: starEach [b, c] X.env := by rfl) (hs1 : starEach [b, c] X.env = (false, eval b X.env) :: starEach [c] X.env := by rfl) (hs2 : starEach [c] X.env = (false, eval c X.env) :: starEach [] X.env := by rfl) : Ev X (.Tuple [a, b, c] z pos) σ G (T3.mk x y w) := fun G1 H1 Q s1 s2 k =>
  WE.of (pe_tup (pa_cons pe_we (pa_cons pe_we (pa_cons pe_we pa_nil hs2) hs1) hs)) (ha G1 H1 _ s1 s2 fun G2 H2 v g r => hb G2 H2 _ (s1.trans g.g) g.s fun G3 H3 u g2 r2 => hc G3 H3 _ (s1.trans (g.trans g2).g) g2.s fun G4 H4 t g3 r3 => ⟨small_sz (n := 3), fun q hq => by
    have g4 := Gr.new (o := .tup [v, u, t]) g3.s hq
    exact k _ _ _ (((g.trans g2).trans g3).trans g4) ⟨q, v, u, t, rfl, upd_same, rup ((g2.trans g3).trans g4).g r, rup (g3.trans g4).g r2, rup g4.g r3⟩⟩)
end
end D1

namespace D1
open PySem L2 Rp

/-! ### blocks -/
/-- from σ, G the block ends at its end as N says, or returns as R says -/
def Bl (X : Cx) (sts : List Stmt) (σ : St) (G : Hp) (N : St → Hp → Prop) (R : V → Hp → Prop) : Prop :=
  ∀ G1 H1 (D : Ends), Same G G1 → Same G1 H1 → (∀ G2 H2 σ', Gr G1 H1 G2 H2 → N σ' G2 → D.nx σ' H2) → (∀ G2 H2 v, Gr G1 H1 G2 H2 → R v G2 → D.rt v H2) → WS X sts D σ H1
def N0 : St → Hp → Prop := fun _ _ => False
/-- the value that is handed back -/
def RV {α : Type} [Rp α] (a : α) : V → Hp → Prop := fun v G => rp G v a

section
variable {α β γ δ : Type} [Rp α] [Rp β] [Rp γ] [Rp δ] {X : Cx} {e a b c : Expr} {σ : St} {G : Hp} {pos p : Pos} {rest th el : List Stmt} {N N1 : St → Hp → Prop} {R : V → Hp → Prop}
theorem Bl.up {sts : List Stmt} {G' : Hp} (s : Same G G') (h : Bl X sts σ G N R) : Bl X sts σ G' N R := fun G1 H1 D s1 => h G1 H1 D (s.trans s1)
theorem Bl.nil (h : ∀ G', Same G G' → N σ G') : Bl X [] σ G N R := fun G1 H1 D s1 s2 kn kr => WS.of pss_nil (kn G1 H1 σ (GrM.refl s2) (h G1 s1))
/-- one statement, then the rest; t: the statement's reading -/
theorem WS.cons {st : Stmt} {t : TS} {D : Ends} {H : Hp} (h : PS X st t) (q : t { D with nx := fun σ' H' => WS X rest D σ' H' } σ H) : WS X (st :: rest) D σ H :=
  WS.of (pss_cons h pss_ws) q
theorem Bl.ret {r : α} (h : Ev X e σ G r) (hR : ∀ G2 v, rp G2 v r → R v G2) : Bl X (.Return (some e) pos :: rest) σ G N R := fun G1 H1 D s1 s2 kn kr =>
  WS.cons (ps_ret pe_we) (h G1 H1 _ s1 s2 fun G2 H2 v g r => kr G2 H2 v g (hR G2 v r))
theorem Bl.rv {r : α} (h : Ev X e σ G r) : Bl X (.Return (some e) pos :: rest) σ G N (RV r) := Bl.ret h fun _ _ r => r
theorem Bl.asg (i : Nat) {x : Str} {d : α} {px : Pos} (h : Ev X e σ G d) (k : ∀ G' v, Same G G' → rp G' v d → Bl X rest (σ.set i (some v)) G' N R) (hN : X.N.Nodup) (hi : X.N[i]? = some x := by rfl) (hx : Loc X.env.scope x := by first | exact Or.inl rfl | exact Or.inr rfl)
    (hs : swapsWith e (some (.Name x px)) pos.line X.env = pure false := by rfl) (hf : X.fn x = true ∨ X.env.scope.names.lookup x = some .local := by first | exact .inl rfl | exact .inr rfl) : Bl X (.Assign [.Name x px] e pos :: rest) σ G N R := fun G1 H1 D s1 s2 kn kr =>
  WS.cons (ps_set hN hi hx pe_we hs hf) (h G1 H1 _ s1 s2 fun G2 H2 v g r => k G2 v (s1.trans g.g) r G2 H2 D (Same.refl _) g.s (fun G3 H3 σ' g2 => kn G3 H3 σ' (g.trans g2)) fun G3 H3 v g2 => kr G3 H3 v (g.trans g2))
theorem Bl.expr {d : α} (h : Ev X e σ G d) (k : Bl X rest σ G N R) (hs : swapsWith e none pos.line X.env = pure false := by rfl) : Bl X (.Expr e pos :: rest) σ G N R := fun G1 H1 D s1 s2 kn kr =>
  WS.cons (ps_expr pe_we hs) (h G1 H1 _ s1 s2 fun G2 H2 v g r => k G2 H2 D (s1.trans g.g) g.s (fun G3 H3 σ' g2 => kn G3 H3 σ' (g.trans g2)) fun G3 H3 v g2 => kr G3 H3 v (g.trans g2))
/-- an if whose first branch leaves -/
theorem Bl.ite {z : Bool} (hc : ET X c σ G z) (h1 : z = true → Bl X th σ G N0 R) (h2 : z = false → Bl X rest σ G N R) : Bl X (.If c th [] pos :: rest) σ G N R := fun G1 H1 D s1 s2 kn kr =>
  WS.cons (ps_if pt_wt pss_ws pss_nil) (hc G1 H1 _ s1 s2 fun G2 H2 g => by
    cases z with
    | true => exact h1 rfl G2 H2 _ (s1.trans g.g) g.s (fun _ _ _ _ z => z.elim) fun G3 H3 v g2 => kr G3 H3 v (g.trans g2)
    | false => exact h2 rfl G2 H2 D (s1.trans g.g) g.s (fun G3 H3 σ' g2 => kn G3 H3 σ' (g.trans g2)) fun G3 H3 v g2 => kr G3 H3 v (g.trans g2))
/-- an if both of whose branches leave -/
theorem Bl.iteE {z : Bool} (hc : ET X c σ G z) (h1 : z = true → Bl X th σ G N0 R) (h2 : z = false → Bl X el σ G N0 R) : Bl X (.If c th el pos :: rest) σ G N R := fun G1 H1 D s1 s2 kn kr =>
  WS.cons (ps_if pt_wt pss_ws pss_ws) (hc G1 H1 _ s1 s2 fun G2 H2 g => by
    cases z with
    | true => exact h1 rfl G2 H2 _ (s1.trans g.g) g.s (fun _ _ _ _ z => z.elim) fun G3 H3 v g2 => kr G3 H3 v (g.trans g2)
    | false => exact h2 rfl G2 H2 _ (s1.trans g.g) g.s (fun _ _ _ _ z => z.elim) fun G3 H3 v g2 => kr G3 H3 v (g.trans g2))
/-- an if that is joined -/
theorem Bl.ifJ (N1 : St → Hp → Prop) {z : Bool} (hc : ET X c σ G z) (h1 : z = true → Bl X th σ G N1 R) (h2 : z = false → Bl X el σ G N1 R) (k : ∀ σ' G', Same G G' → N1 σ' G' → Bl X rest σ' G' N R) : Bl X (.If c th el pos :: rest) σ G N R := fun G1 H1 D s1 s2 kn kr =>
  WS.cons (ps_if pt_wt pss_ws pss_ws) (hc G1 H1 _ s1 s2 fun G2 H2 g => by
    have fin : ∀ G3 H3 σ', Gr G2 H2 G3 H3 → N1 σ' G3 → WS X rest D σ' H3 := fun G3 H3 σ' g2 n => k σ' G3 (s1.trans (g.trans g2).g) n G3 H3 D (Same.refl _) g2.s (fun G4 H4 σ' g3 => kn G4 H4 σ' ((g.trans g2).trans g3)) fun G4 H4 v g3 => kr G4 H4 v ((g.trans g2).trans g3)
    cases z with
    | true => exact h1 rfl G2 H2 _ (s1.trans g.g) g.s fin fun G3 H3 v g2 => kr G3 H3 v (g.trans g2)
    | false => exact h2 rfl G2 H2 _ (s1.trans g.g) g.s fin fun G3 H3 v g2 => kr G3 H3 v (g.trans g2))
/-- a test that is not met: the branch may be anything -/
theorem Bl.ifF (hc : ET X c σ G false) (h2 : Bl X rest σ G N R) : Bl X (.If c th [] pos :: rest) σ G N R := Bl.ite hc (fun h => nomatch h) fun _ => h2
/-- x, y = e, a pair -/
theorem pg_two {i j : Nat} {x y : Str} {px py pt : Pos} {kt} (hc : X.calm = true) (hN : X.N.Nodup) (hi : X.N[i]? = some x) (hj : X.N[j]? = some y) (hx : Loc X.env.scope x) (hy : Loc X.env.scope y)
    (fx : X.fn x = true ∨ X.env.scope.names.lookup x = some .local) (fy : X.fn y = true ∨ X.env.scope.names.lookup y = some .local)
    (h1 : (assignEach [.Name x px, .Name y py] X.env).map (·.2) = assign (.Name x px) X.env :: (assignEach [.Name y py] X.env).map (·.2) := by rfl) (h2 : (assignEach [.Name y py] X.env).map (·.2) = assign (.Name y py) X.env :: (assignEach [] X.env).map (·.2) := by rfl)
    (hn : (assignEach [.Name x px, .Name y py] X.env).length = 2 := by rfl) (hst : (assignEach [.Name x px, .Name y py] X.env).findIdx? (·.1) = none := by rfl) :
    PG X (.Tuple [.Name x px, .Name y py] kt pt) (gTup X.K 2 (gCons (gName i) (gCons (gName j) gNil))) := pg_tup hc (pgs_cons (pg_name hN hi hx fx) (pgs_cons (pg_name hN hj hy fy) pgs_nil h2) h1) hn hst
theorem pg_three {i j l : Nat} {x y z : Str} {px py pz pt : Pos} {kt} (hc : X.calm = true) (hN : X.N.Nodup) (hi : X.N[i]? = some x) (hj : X.N[j]? = some y) (hl : X.N[l]? = some z) (hx : Loc X.env.scope x) (hy : Loc X.env.scope y) (hz : Loc X.env.scope z)
    (fx : X.fn x = true ∨ X.env.scope.names.lookup x = some .local) (fy : X.fn y = true ∨ X.env.scope.names.lookup y = some .local) (fz : X.fn z = true ∨ X.env.scope.names.lookup z = some .local)
    (h1 : (assignEach [.Name x px, .Name y py, .Name z pz] X.env).map (·.2) = assign (.Name x px) X.env :: (assignEach [.Name y py, .Name z pz] X.env).map (·.2) := by rfl) (h2 : (assignEach [.Name y py, .Name z pz] X.env).map (·.2) = assign (.Name y py) X.env :: (assignEach [.Name z pz] X.env).map (·.2) := by rfl)
    (h3 : (assignEach [.Name z pz] X.env).map (·.2) = assign (.Name z pz) X.env :: (assignEach [] X.env).map (·.2) := by rfl)
    (hn : (assignEach [.Name x px, .Name y py, .Name z pz] X.env).length = 3 := by rfl) (hst : (assignEach [.Name x px, .Name y py, .Name z pz] X.env).findIdx? (·.1) = none := by rfl) :
    PG X (.Tuple [.Name x px, .Name y py, .Name z pz] kt pt) (gTup X.K 3 (gCons (gName i) (gCons (gName j) (gCons (gName l) gNil)))) := pg_tup hc (pgs_cons (pg_name hN hi hx fx) (pgs_cons (pg_name hN hj hy fy) (pgs_cons (pg_name hN hl hz fz) pgs_nil h3) h2) h1) hn hst
theorem g_two {K : PySem.W.Frag} {i j : Nat} {G H : Hp} {σ : St} {v : V} {x : α} {y : β} {Q : St → Hp → Prop} (s : Same G H) (r : rp G v (x, y)) (k : ∀ u w, rp G u x → rp G w y → Q ((σ.set i (some u)).set j (some w)) H) : gTup K 2 (gCons (gName i) (gCons (gName j) gNil)) v σ H Q := by
  obtain ⟨p, u, w, rfl, h, r1, r2⟩ := r
  exact ⟨p, [u, w], rfl, SqT.of (s _ _ h), rfl, u, _, rfl, w, _, rfl, rfl, k u w r1 r2⟩
theorem g_three {K : PySem.W.Frag} {i j l : Nat} {G H : Hp} {σ : St} {v : V} {t : T3 α β γ} {Q : St → Hp → Prop} (s : Same G H) (r : rp G v t) (k : ∀ u w z, rp G u t.a → rp G w t.b → rp G z t.c → Q (((σ.set i (some u)).set j (some w)).set l (some z)) H) : gTup K 3 (gCons (gName i) (gCons (gName j) (gCons (gName l) gNil))) v σ H Q := by
  obtain ⟨p, u, w, z, rfl, h, r1, r2, r3⟩ := r
  exact ⟨p, [u, w, z], rfl, SqT.of (s _ _ h), rfl, u, _, rfl, w, _, rfl, z, _, rfl, rfl, k u w z r1 r2 r3⟩
theorem Bl.asgG {tg : Expr} {g : TG} {d : α} (h : Ev X e σ G d) (hg : PG X tg g) (k : ∀ G' H' v (Q : St → Hp → Prop), Same G G' → Same G' H' → rp G' v d → (∀ σ', Bl X rest σ' G' N R → Q σ' H') → g v σ H' Q)
    (hs : swapsWithSole [tg] e pos.line X.env = pure false := by rfl) (hw : swappedStores [tg] e X.env = pure none := by rfl) (h1 : (assignEach [tg] X.env).map (·.2) = [assign tg X.env] := by rfl) : Bl X (.Assign [tg] e pos :: rest) σ G N R := fun G1 H1 D s1 s2 kn kr =>
  WS.cons (ps_asg pe_we hg hs hw h1) (h G1 H1 _ s1 s2 fun G2 H2 v g r => k G2 H2 v _ (s1.trans g.g) g.s r fun σ' q => q G2 H2 D (Same.refl _) g.s (fun G3 H3 σ' g2 => kn G3 H3 σ' (g.trans g2)) fun G3 H3 v g2 => kr G3 H3 v (g.trans g2))
/-- the two, the three names -/
theorem Bl.asg2 (i j : Nat) {x y : Str} {px py pt : Pos} {kt} {d : α} {d2 : β} (h : Ev X e σ G (d, d2)) (k : ∀ G' u w, Same G G' → rp G' u d → rp G' w d2 → Bl X rest ((σ.set i (some u)).set j (some w)) G' N R)
    (hN : X.N.Nodup) (hc : X.calm = true := by rfl) (hi : X.N[i]? = some x := by rfl) (hj : X.N[j]? = some y := by rfl) (hx : Loc X.env.scope x := by first | exact Or.inl rfl | exact Or.inr rfl) (hy : Loc X.env.scope y := by first | exact Or.inl rfl | exact Or.inr rfl)
    (fx : X.fn x = true ∨ X.env.scope.names.lookup x = some .local := by first | exact .inl rfl | exact .inr rfl) (fy : X.fn y = true ∨ X.env.scope.names.lookup y = some .local := by first | exact .inl rfl | exact .inr rfl)
    (h1 : (assignEach [.Name x px, .Name y py] X.env).map (·.2) = assign (.Name x px) X.env :: (assignEach [.Name y py] X.env).map (·.2) := by rfl) (h2 : (assignEach [.Name y py] X.env).map (·.2) = assign (.Name y py) X.env :: (assignEach [] X.env).map (·.2) := by rfl)
    (hn : (assignEach [.Name x px, .Name y py] X.env).length = 2 := by rfl) (hst : (assignEach [.Name x px, .Name y py] X.env).findIdx? (·.1) = none := by rfl)
    (hs : swapsWithSole [.Tuple [.Name x px, .Name y py] kt pt] e pos.line X.env = pure false := by rfl) (hw : swappedStores [.Tuple [.Name x px, .Name y py] kt pt] e X.env = pure none := by rfl) (ha : (assignEach [.Tuple [.Name x px, .Name y py] kt pt] X.env).map (·.2) = [assign (.Tuple [.Name x px, .Name y py] kt pt) X.env] := by rfl) :
    Bl X (.Assign [.Tuple [.Name x px, .Name y py] kt pt] e pos :: rest) σ G N R :=
  Bl.asgG h (pg_two hc hN hi hj hx hy fx fy h1 h2 hn hst) (fun G' H' v Q s1 s2 r q => g_two s2 r fun u w r1 r2 => q _ (k G' u w s1 r1 r2)) hs hw ha
theorem Bl.asg3 (i j l : Nat) {x y z : Str} {px py pz pt : Pos} {kt} {t : T3 α β γ} (h : Ev X e σ G t) (k : ∀ G' u w z, Same G G' → rp G' u t.a → rp G' w t.b → rp G' z t.c → Bl X rest (((σ.set i (some u)).set j (some w)).set l (some z)) G' N R)
    (hN : X.N.Nodup) (hc : X.calm = true := by rfl) (hi : X.N[i]? = some x := by rfl) (hj : X.N[j]? = some y := by rfl) (hl : X.N[l]? = some z := by rfl) (hx : Loc X.env.scope x := by first | exact Or.inl rfl | exact Or.inr rfl) (hy : Loc X.env.scope y := by first | exact Or.inl rfl | exact Or.inr rfl) (hz : Loc X.env.scope z := by first | exact Or.inl rfl | exact Or.inr rfl)
    (fx : X.fn x = true ∨ X.env.scope.names.lookup x = some .local := by first | exact .inl rfl | exact .inr rfl) (fy : X.fn y = true ∨ X.env.scope.names.lookup y = some .local := by first | exact .inl rfl | exact .inr rfl) (fz : X.fn z = true ∨ X.env.scope.names.lookup z = some .local := by first | exact .inl rfl | exact .inr rfl)
    (h1 : (assignEach [.Name x px, .Name y py, .Name z pz] X.env).map (·.2) = assign (.Name x px) X.env :: (assignEach [.Name y py, .Name z pz] X.env).map (·.2) := by rfl) (h2 : (assignEach [.Name y py, .Name z pz] X.env).map (·.2) = assign (.Name y py) X.env :: (assignEach [.Name z pz] X.env).map (·.2) := by rfl)
    (h3 : (assignEach [.Name z pz] X.env).map (·.2) = assign (.Name z pz) X.env :: (assignEach [] X.env).map (·.2) := by rfl)
    (hn : (assignEach [.Name x px, .Name y py, .Name z pz] X.env).length = 3 := by rfl) (hst : (assignEach [.Name x px, .Name y py, .Name z pz] X.env).findIdx? (·.1) = none := by rfl)
    (hs : swapsWithSole [.Tuple [.Name x px, .Name y py, .Name z pz] kt pt] e pos.line X.env = pure false := by rfl) (hw : swappedStores [.Tuple [.Name x px, .Name y py, .Name z pz] kt pt] e X.env = pure none := by rfl) (ha : (assignEach [.Tuple [.Name x px, .Name y py, .Name z pz] kt pt] X.env).map (·.2) = [assign (.Tuple [.Name x px, .Name y py, .Name z pz] kt pt) X.env] := by rfl) :
    Bl X (.Assign [.Tuple [.Name x px, .Name y py, .Name z pz] kt pt] e pos :: rest) σ G N R :=
  Bl.asgG h (pg_three hc hN hi hj hl hx hy hz fx fy fz h1 h2 h3 hn hst) (fun G' H' v Q s1 s2 r q => g_three s2 r fun u w z r1 r2 r3 => q _ (k G' u w z s1 r1 r2 r3)) hs hw ha
/-- a, b = x, y stored from the right (plain local names) -/
theorem Bl.par2 (i j : Nat) {x y : Str} {px py pt pt2 : Pos} {kt k2} {d : α} {d2 : β} (ha : Ev X a σ G d) (hb : Ev X b σ G d2) (k : ∀ G' u w, Same G G' → rp G' u d → rp G' w d2 → Bl X rest ((σ.set i (some u)).set j (some w)) G' N R)
    (hN : X.N.Nodup) (hw : swappedStores [.Tuple [.Name x px, .Name y py] kt pt] (.Tuple [a, b] k2 pt2) X.env = pure (some [x, y]) := by rfl) (hc : X.calm = true := by rfl) (hi : X.N[i]? = some x := by rfl) (hj : X.N[j]? = some y := by rfl) (hij : i ≠ j := by decide) (hx : X.env.scope.names.lookup x = some .local := by rfl) (hy : X.env.scope.names.lookup y = some .local := by rfl)
    (h1 : starEach [a, b] X.env = (false, eval a X.env) :: starEach [b] X.env := by rfl) (h2 : starEach [b] X.env = (false, eval b X.env) :: starEach [] X.env := by rfl)
    (hs : swapsWithSole [.Tuple [.Name x px, .Name y py] kt pt] (.Tuple [a, b] k2 pt2) pos.line X.env = pure false := by rfl) : Bl X (.Assign [.Tuple [.Name x px, .Name y py] kt pt] (.Tuple [a, b] k2 pt2) pos :: rest) σ G N R := fun G1 H1 D s1 s2 kn kr =>
  WS.cons (ps_par hc hN hi hj hij hx hy (pa_cons pe_we (pa_cons pe_we pa_nil h2) h1) hw hs) (ha G1 H1 _ s1 s2 fun G2 H2 v g r => hb G2 H2 _ (s1.trans g.g) g.s fun G3 H3 u g2 r2 => ⟨v, u, rfl, k G3 v u (s1.trans (g.trans g2).g) (rup g2.g r) r2 G3 H3 D (Same.refl _) g2.s (fun G4 H4 σ' g3 => kn G4 H4 σ' ((g.trans g2).trans g3)) fun G4 H4 v g3 => kr G4 H4 v ((g.trans g2).trans g3)⟩)
end

/-! ### calls -/
/-- one argument: f, where pre holds -/
def P1 {α β : Type} [Rp α] [Rp β] (pre : α → Prop) (f : α → β) : Sp := fun vs H Q _ => ∃ G v a, vs = [v] ∧ Same G H ∧ rp G v a ∧ pre a ∧ ∀ G' H' w, Gr G H G' H' → rp G' w (f a) → Q w H'
def P2 {α β γ : Type} [Rp α] [Rp β] [Rp γ] (pre : α → β → Prop) (f : α → β → γ) : Sp := fun vs H Q _ => ∃ G u v a b, vs = [u, v] ∧ Same G H ∧ rp G u a ∧ rp G v b ∧ pre a b ∧ ∀ G' H' w, Gr G H G' H' → rp G' w (f a b) → Q w H'
def P3 {α β γ δ : Type} [Rp α] [Rp β] [Rp γ] [Rp δ] (pre : α → β → γ → Prop) (f : α → β → γ → δ) : Sp := fun vs H Q _ => ∃ G u v w a b c, vs = [u, v, w] ∧ Same G H ∧ rp G u a ∧ rp G v b ∧ rp G w c ∧ pre a b c ∧ ∀ G' H' w, Gr G H G' H' → rp G' w (f a b c) → Q w H'
section
variable {α β γ δ : Type} [Rp α] [Rp β] [Rp γ] [Rp δ] {X : Cx} {e e1 e2 e3 : Expr} {σ : St} {G : Hp} {pos p : Pos} {x : Str} {k j : Nat}
theorem Ev.call1 {pre : α → Prop} {f : α → β} {a : α} (c : C8.Cal X.prog X.w X.K X.mg X.base k x (P1 pre f) []) (hr : Room j X.A) (ha : Ev X e σ G a) (hp : pre a) (hk : k ≤ j := by decide) (hg : Gl X x := by rfl)
    (hdb : (x == ("__debug__" : Str)) = false := by decide) (hs : starEach [e] X.env = (false, eval e X.env) :: starEach [] X.env := by rfl) (hpl : (backTo pos (starEach [] X.env)).any (·.1) = false := by rfl) : Ev X (.Call (.Name x p) [e] [] pos) σ G (f a) := fun G1 H1 Q s1 s2 kk =>
  WE.of (C8.pe_c c hr hk hg (pa_cons pe_we pa_nil hs) hdb hs hpl) (ha G1 H1 _ s1 s2 fun G2 H2 v g r => ⟨G2, v, a, rfl, g.s, r, hp, fun G3 H3 w g2 r2 => kk G3 H3 w (g.trans g2) r2⟩)
theorem Ev.call2 {pre : α → β → Prop} {f : α → β → γ} {a : α} {b : β} (c : C8.Cal X.prog X.w X.K X.mg X.base k x (P2 pre f) []) (hr : Room j X.A) (ha : Ev X e1 σ G a) (hb : Ev X e2 σ G b) (hp : pre a b) (hk : k ≤ j := by decide) (hg : Gl X x := by rfl)
    (hdb : (x == ("__debug__" : Str)) = false := by decide) (hs : starEach [e1, e2] X.env = (false, eval e1 X.env) :: starEach [e2] X.env := by rfl) (hs2 : starEach [e2] X.env = (false, eval e2 X.env) :: starEach [] X.env := by rfl) (hpl : (backTo pos (starEach [e2] X.env)).any (·.1) = false := by rfl) : Ev X (.Call (.Name x p) [e1, e2] [] pos) σ G (f a b) := fun G1 H1 Q s1 s2 kk =>
  WE.of (C8.pe_c c hr hk hg (pa_cons pe_we (pa_cons pe_we pa_nil hs2) hs) hdb hs hpl) (ha G1 H1 _ s1 s2 fun G2 H2 v g r => hb G2 H2 _ (s1.trans g.g) g.s fun G3 H3 u g2 r2 => ⟨G3, v, u, a, b, rfl, g2.s, rup g2.g r, r2, hp, fun G4 H4 w g3 r3 => kk G4 H4 w ((g.trans g2).trans g3) r3⟩)
theorem Ev.call3 {pre : α → β → γ → Prop} {f : α → β → γ → δ} {a : α} {b : β} {d : γ} (c : C8.Cal X.prog X.w X.K X.mg X.base k x (P3 pre f) []) (hr : Room j X.A) (ha : Ev X e1 σ G a) (hb : Ev X e2 σ G b) (hd : Ev X e3 σ G d) (hp : pre a b d) (hk : k ≤ j := by decide) (hg : Gl X x := by rfl)
    (hdb : (x == ("__debug__" : Str)) = false := by decide) (hs : starEach [e1, e2, e3] X.env = (false, eval e1 X.env) :: starEach [e2, e3] X.env := by rfl) (hs2 : starEach [e2, e3] X.env = (false, eval e2 X.env) :: starEach [e3] X.env := by rfl) (hs3 : starEach [e3] X.env = (false, eval e3 X.env) :: starEach [] X.env := by rfl)
    (hpl : (backTo pos (starEach [e2, e3] X.env)).any (·.1) = false := by rfl) : Ev X (.Call (.Name x p) [e1, e2, e3] [] pos) σ G (f a b d) := fun G1 H1 Q s1 s2 kk =>
  WE.of (C8.pe_c c hr hk hg (pa_cons pe_we (pa_cons pe_we (pa_cons pe_we pa_nil hs3) hs2) hs) hdb hs hpl) (ha G1 H1 _ s1 s2 fun G2 H2 v g r => hb G2 H2 _ (s1.trans g.g) g.s fun G3 H3 u g2 r2 => hd G3 H3 _ (s1.trans (g.trans g2).g) g2.s fun G4 H4 t g3 r3 =>
    ⟨G4, v, u, t, a, b, d, rfl, g3.s, rup (g2.trans g3).g r, rup g3.g r2, r3, hp, fun G5 H5 w g4 r4 => kk G5 H5 w (((g.trans g2).trans g3).trans g4) r4⟩)
end
/-- the context of a def's body -/
abbrev BX (P : Program) (w : World) (K : PySem.W.Frag) (mg : Str → Option Value) (base : Heap) (N : List Str) (x : Str) (st : Stmt) (f : Addr) (cdv : Value) (A : Around) (outer : List Env) (s : Shared) (H : Hp) (E : XK) : Cx :=
  (cxOf C8.CX0 P w K mg base N x (C8.fnScope st) f cdv A outer s H E).nox
section
variable {α β γ δ : Type} [Rp α] [Rp β] [Rp γ] [Rp δ] {P : Program} {w : World} {K : PySem.W.Frag} {mg : Str → Option Value} {base : Heap} {x : Str} {st : Stmt} {f : Addr} {fd : FuncData} {N ps : List Str} {k : Nat}
/-- what a body is to show: its value -/
theorem fn1 {pre : α → Prop} {g : α → β} (F : C8.Def K mg x st f fd) (b : Binds K fd ps []) (S : FnScope N ps (C8.fnScope st)) (hl : ps.length = 1)
    (body : ∀ (cdv : Value) (A : Around) (outer : List Env) (s : Shared) (H : Hp) (E : XK) (G : Hp) (v : V) (a : α), Room k (BX P w K mg base N x st f cdv A outer s H E).A → rp G v a → pre a →
      Bl (BX P w K mg base N x st f cdv A outer s H E) (C8.fnBody st) (start N [v]) G (fun _ G => rp G .non (g a)) (RV (g a))) : C8.Cal P w K mg base (k + 1) x (P1 pre g) [] := by
  refine C8.cal0 F b .nil S (fun vs H Q E h => ?_) fun cdv A outer s H vs Q E hr h => ?_
  · obtain ⟨G, v, a, rfl, _⟩ := h
    exact hl.symm
  · obtain ⟨G, v, a, rfl, s1, r, p, kk⟩ := h
    exact ⟨_, pss_ws, body cdv A outer s H E G v a hr r p G H _ (Same.refl G) s1 (fun G2 H2 _ g n => kk G2 H2 _ g n) fun G2 H2 v g r => kk G2 H2 v g r⟩
theorem fn2 {pre : α → β → Prop} {g : α → β → γ} (F : C8.Def K mg x st f fd) (b : Binds K fd ps []) (S : FnScope N ps (C8.fnScope st)) (hl : ps.length = 2)
    (body : ∀ (cdv : Value) (A : Around) (outer : List Env) (s : Shared) (H : Hp) (E : XK) (G : Hp) (u v : V) (a : α) (b : β), Room k (BX P w K mg base N x st f cdv A outer s H E).A → rp G u a → rp G v b → pre a b →
      Bl (BX P w K mg base N x st f cdv A outer s H E) (C8.fnBody st) (start N [u, v]) G (fun _ G => rp G .non (g a b)) (RV (g a b))) : C8.Cal P w K mg base (k + 1) x (P2 pre g) [] := by
  refine C8.cal0 F b .nil S (fun vs H Q E h => ?_) fun cdv A outer s H vs Q E hr h => ?_
  · obtain ⟨G, u, v, a, b, rfl, _⟩ := h
    exact hl.symm
  · obtain ⟨G, u, v, a, b, rfl, s1, r1, r2, p, kk⟩ := h
    exact ⟨_, pss_ws, body cdv A outer s H E G u v a b hr r1 r2 p G H _ (Same.refl G) s1 (fun G2 H2 _ g n => kk G2 H2 _ g n) fun G2 H2 v g r => kk G2 H2 v g r⟩
theorem fn3 {pre : α → β → γ → Prop} {g : α → β → γ → δ} (F : C8.Def K mg x st f fd) (b : Binds K fd ps []) (S : FnScope N ps (C8.fnScope st)) (hl : ps.length = 3)
    (body : ∀ (cdv : Value) (A : Around) (outer : List Env) (s : Shared) (H : Hp) (E : XK) (G : Hp) (u v w' : V) (a : α) (b : β) (c : γ), Room k (BX P w K mg base N x st f cdv A outer s H E).A → rp G u a → rp G v b → rp G w' c → pre a b c →
      Bl (BX P w K mg base N x st f cdv A outer s H E) (C8.fnBody st) (start N [u, v, w']) G (fun _ G => rp G .non (g a b c)) (RV (g a b c))) : C8.Cal P w K mg base (k + 1) x (P3 pre g) [] := by
  refine C8.cal0 F b .nil S (fun vs H Q E h => ?_) fun cdv A outer s H vs Q E hr h => ?_
  · obtain ⟨G, u, v, w', a, b, c, rfl, _⟩ := h
    exact hl.symm
  · obtain ⟨G, u, v, w', a, b, c, rfl, s1, r1, r2, r3, p, kk⟩ := h
    exact ⟨_, pss_ws, body cdv A outer s H E G u v w' a b c hr r1 r2 r3 p G H _ (Same.refl G) s1 (fun G2 H2 _ g n => kk G2 H2 _ g n) fun G2 H2 v g r => kk G2 H2 v g r⟩
end
end D1

namespace D1
open PySem L2 Rp

/-! ### what is walked -/
def WI (X : Cx) (tg iter : Expr) : TI := fun σ H R => ∀ pins s, Inv X pins σ H s → wpAny (model X.prog X.w) X.A (eval iter X.env) (fun v s1 => wpAny (model X.prog X.w) X.A (pyIter v) (PIE X pins σ tg R) X.xe s1) X.xe s
theorem pi_wi {X : Cx} {tg iter : Expr} : PI X tg iter (WI X tg iter) := ⟨fun pins s _ _ _ I h => h pins s I⟩
theorem WI.of {X : Cx} {tg iter : Expr} {wi : TI} (h : PI X tg iter wi) {σ : St} {H : Hp} {R : It → Hp → Prop} (q : wi σ H R) : WI X tg iter σ H R := fun pins s I => h.run pins s σ H R I q
/-- the items of the walk -/
def EI {γ : Type} [Rp γ] (X : Cx) (tg iter : Expr) (σ : St) (G : Hp) (l : List γ) : Prop := ∀ G1 H1 (R : It → Hp → Prop), Same G G1 → Same G1 H1 →
  (∀ J S Y G2 H2, Gr G1 H1 G2 H2 → Walk J l.length S Y → (∀ H', Same G2 H' → S H') → (∀ i H x H', i < l.length → Y i H x H' → ∀ G', Same G2 G' → Same G' H → ∃ c G'', l[i]? = some c ∧ Gr G' H G'' H' ∧ rp G'' x c) → R J H2) → WI X tg iter σ H1 R
theorem paired_at {α β : Type} {F : α → β → Prop} : ∀ {l : List α} {m : List β} {i : Nat} {x : α}, Paired F l m → l[i]? = some x → ∃ y, m[i]? = some y ∧ F x y
  | _, _, _, _, .nil, h => by simp at h
  | _, _, 0, _, .cons r _, h => by simp at h; subst h; exact ⟨_, rfl, r⟩
  | _, _, i + 1, x, .cons _ t, h => by
    obtain ⟨y, h1, h2⟩ := paired_at (i := i) (x := x) t (by simpa using h)
    exact ⟨y, by simpa using h1, h2⟩
section
variable {α β γ δ : Type} [Rp α] [Rp β] [Rp γ] [Rp δ] {X : Cx} {e a b c tg : Expr} {σ : St} {G : Hp} {pos p : Pos} {rest : List Stmt} {N : St → Hp → Prop} {R : V → Hp → Prop}
theorem EI.list {l : List α} (h : Ev X e σ G l) : EI X tg e σ G l := fun G1 H1 R s1 s2 k =>
  WI.of (pi_list pe_we) (h G1 H1 _ s1 s2 fun G2 H2 v g r => by
    obtain ⟨q, xs, rfl, h1, pr⟩ := r
    have hl := pr.length
    refine ⟨q, rfl, ⟨xs, SqL.of (g.s _ _ h1)⟩, k _ (fun H => SqL X.K H q xs) (YAt xs) G2 H2 g (by rw [← hl]; exact walk_list) (fun H' s => SqL.of (s _ _ h1)) fun i H x H' hi y G' s3 s4 => ?_⟩
    obtain ⟨rfl, y⟩ := y
    obtain ⟨d, e1, e2⟩ := paired_at pr y
    exact ⟨d, G', e1, GrM.refl s4, rup s3 e2⟩)
/-- the signs of a text -/
def signs (z : Str) : List Str := z.cps.toList.map fun c => ⟨#[c]⟩
theorem EI.str {z : Str} (h : Ev X e σ G z) : EI X tg e σ G (signs z) := fun G1 H1 R s1 s2 k =>
  WI.of (pi_str pe_we) (h G1 H1 _ s1 s2 fun G2 H2 v g r => by
    cases r
    refine ⟨z, rfl, k _ (fun _ => True) _ G2 H2 g (by have e : (signs z).length = z.cps.size := by simp [signs]
                                                      rw [e]; exact walk_str) (fun _ _ => trivial) fun i H x H' hi y G' s3 s4 => ?_⟩
    obtain ⟨rfl, d, e1, rfl⟩ := y
    exact ⟨⟨#[d]⟩, G', by simp [signs, e1], GrM.refl s4, rfl⟩)
/-- 0, 1, .. below n -/
def upto (n : Nat) : List Int := (List.range n).map fun (i : Nat) => (i : Int)
theorem EI.range1 {n : Int} (hm : X.mg "range" = none) (h : Ev X e σ G n) (hn : -(2 ^ 62) ≤ n ∧ n < 2 ^ 62) (hg : Gl X "range" := by rfl) (hs : starEach [e] X.env = [(false, eval e X.env)] := by rfl) : EI X tg (.Call (.Name "range" p) [e] [] pos) σ G (upto n.toNat) := fun G1 H1 R s1 s2 k =>
  WI.of (pi_range1 hg hm (pa_cons pe_we pa_nil hs) hs) (h G1 H1 _ s1 s2 fun G2 H2 v g r => by
    cases r
    refine ⟨n, rfl, hn.1, hn.2, k _ (fun _ => True) _ G2 H2 g (by have e : (upto n.toNat).length = n.toNat := by simp [upto]
                                                                  rw [e]; exact walk_range) (fun _ _ => trivial) fun i H x H' hi y G' s3 s4 => ?_⟩
    obtain ⟨rfl, rfl⟩ := y
    have hi' : i < n.toNat := by simpa [upto] using hi
    exact ⟨(i : Int), G', by simp [upto, hi'], GrM.refl s4, by show V.int (0 + (i : Int)) = V.int i; rw [Int.zero_add]⟩)
/-- (i, x) -/
def enumd {α : Type} (l : List α) : List (Int × α) := (List.range l.length).zipWith (fun (i : Nat) x => ((i : Int), x)) l
theorem enumd_len {α : Type} (l : List α) : (enumd l).length = l.length := by simp [enumd]
theorem enumd_at {α : Type} {l : List α} {i : Nat} {x : α} (h : l[i]? = some x) : (enumd l)[i]? = some ((i : Int), x) := by
  have hi : i < l.length := (List.getElem?_eq_some_iff.mp h).1
  have e : l[i] = x := (List.getElem?_eq_some_iff.mp h).2
  simp [enumd, List.getElem?_zipWith, hi, e]
theorem EI.enum {l : List α} {elts : List Expr} {kk : Nat} {tpos : Pos} (hm : X.mg "enumerate" = none) (h : Ev X e σ G l) (hg : Gl X "enumerate" := by rfl) (hs : starEach [e] X.env = [(false, eval e X.env)] := by rfl) : EI X (.Tuple elts kk tpos) (.Call (.Name "enumerate" p) [e] [] pos) σ G (enumd l) := fun G1 H1 R s1 s2 k =>
  WI.of (pi_enum hg hm (pa_cons pe_we pa_nil hs) hs) (h G1 H1 _ s1 s2 fun G2 H2 v g r => by
    obtain ⟨q, xs, rfl, h1, pr⟩ := r
    have hl := pr.length
    refine ⟨q, xs, rfl, SqL.of (g.s _ _ h1), k _ (fun H => SqL X.K H q xs) _ G2 H2 g (by rw [enumd_len, ← hl]; exact walk_enum) (fun H' s => SqL.of (s _ _ h1)) fun i H x H' hi y G' s3 s4 => ?_⟩
    obtain ⟨T, u, w, rfl, hT, rfl, e1, e2⟩ := y
    cases e1
    obtain ⟨d, e3, e4⟩ := paired_at pr e2
    have g3 := Gr.new (o := .tup [.int (i : Nat), w]) s4 hT
    exact ⟨((i : Int), d), _, enumd_at e3, g3, T, _, _, rfl, upd_same, rfl, rup (s3.trans g3.g) e4⟩)
theorem EI.zip {l : List α} {m : List β} {elts : List Expr} {kk : Nat} {tpos : Pos} (hm : X.mg "zip" = none) (h : Ev X a σ G l) (h2 : Ev X b σ G m) (hg : Gl X "zip" := by rfl) (hs2 : starEach [b] X.env = (false, eval b X.env) :: starEach [] X.env := by rfl) (hs1 : starEach [a, b] X.env = (false, eval a X.env) :: starEach [b] X.env := by rfl) (hpl : (backTo pos (starEach [b] X.env)).any (·.1) = false := by rfl) : EI X (.Tuple elts kk tpos) (.Call (.Name "zip" p) [a, b] [] pos) σ G (l.zip m) := fun G1 H1 R s1 s2 k =>
  WI.of (pi_zip hg hm (pa_cons pe_we (pa_cons pe_we pa_nil hs2) hs1) hs1 hpl) (h G1 H1 _ s1 s2 fun G2 H2 v g r => h2 G2 H2 _ (s1.trans g.g) g.s fun G3 H3 v2 g2 r2 => by
    obtain ⟨q, xs, rfl, h1, pr⟩ := rup g2.g r
    obtain ⟨q2, ys, rfl, h3, pr2⟩ := r2
    have hl := pr.length
    have hl2 := pr2.length
    refine ⟨q, q2, xs, ys, rfl, SqL.of (g2.s _ _ h1), SqL.of (g2.s _ _ h3), k _ (fun H => SqL X.K H q xs ∧ SqL X.K H q2 ys) _ G3 H3 (g.trans g2) (walk_zip (by rw [List.length_zip, hl, hl2])) (fun H' s => ⟨SqL.of (s _ _ h1), SqL.of (s _ _ h3)⟩) fun i H x H' hi y G' s3 s4 => ?_⟩
    obtain ⟨T, u, w, rfl, hT, rfl, e1, e2⟩ := y
    obtain ⟨d, e3, e4⟩ := paired_at pr e1
    obtain ⟨d2, e5, e6⟩ := paired_at pr2 e2
    have g3 := Gr.new (o := .tup [u, w]) s4 hT
    exact ⟨(d, d2), _, by rw [List.getElem?_zip_eq_some]; exact ⟨e3, e5⟩, g3, T, _, _, rfl, upd_same, rup (s3.trans g3.g) e4, rup (s3.trans g3.g) e6⟩)

/-! ### targets -/
/-- what a target's store leaves: B item G σ σ' -/
def TgB (g : TG) (B : γ → Hp → St → St → Prop) : Prop := ∀ c G H v σ (Q : St → Hp → Prop), Same G H → rp G v c → (∀ σ', B c G σ σ' → Q σ' H) → g v σ H Q
def B1 (i : Nat) (c : γ) (G : Hp) (σ σ' : St) : Prop := ∃ v, rp G v c ∧ σ' = σ.set i (some v)
def B2 (i j : Nat) (c : α × β) (G : Hp) (σ σ' : St) : Prop := ∃ u w, rp G u c.1 ∧ rp G w c.2 ∧ σ' = (σ.set i (some u)).set j (some w)
def B3 (i j l : Nat) (c : T3 α β γ) (G : Hp) (σ σ' : St) : Prop := ∃ u w z, rp G u c.a ∧ rp G w c.b ∧ rp G z c.c ∧ σ' = ((σ.set i (some u)).set j (some w)).set l (some z)
theorem tgB1 {i : Nat} : TgB (γ := γ) (gName i) (B1 i) := fun c G H v σ Q s r k => k _ ⟨v, r, rfl⟩
theorem tgB2 {K : PySem.W.Frag} {i j : Nat} : TgB (γ := α × β) (gTup K 2 (gCons (gName i) (gCons (gName j) gNil))) (B2 i j) := fun c G H v σ Q s r k => g_two s r fun u w r1 r2 => k _ ⟨u, w, r1, r2, rfl⟩
theorem tgB3 {K : PySem.W.Frag} {i j l : Nat} : TgB (γ := T3 α β γ) (gTup K 3 (gCons (gName i) (gCons (gName j) (gCons (gName l) gNil)))) (B3 i j l) := fun c G H v σ Q s r k => g_three s r fun u w z r1 r2 r3 => k _ ⟨u, w, z, r1, r2, r3, rfl⟩

/-! ### comprehensions -/
def ETs (X : Cx) (ifs : List Expr) (σ : St) (G : Hp) (b : Bool) : Prop := ∀ G1 H1 (Q : Bool → Hp → Prop), Same G G1 → Same G1 H1 → (∀ G2 H2, Gr G1 H1 G2 H2 → Q b H2) → ∀ pins s, Inv X pins σ H1 s →
    wpAny (model X.prog X.w) X.A (forIn ifs true fun c r => if r = true then do let ok ← isTrue c X.env (eval c X.env); pure (ForInStep.yield ok) else pure (ForInStep.yield r)) (TP X pins σ Q) X.xe s
theorem ETs.nil : ETs X [] σ G true := fun G1 H1 Q s1 s2 k pins s I => pts_nil.run pins s σ H1 Q I (k G1 H1 (GrM.refl s2))
theorem ETs.one {c : Expr} {z : Bool} (h : ET X c σ G z) : ETs X [c] σ G z := fun G1 H1 Q s1 s2 k pins s I => (pts_one (t := WT X c) pt_wt).run pins s σ H1 Q I (h G1 H1 Q s1 s2 k)
/-- a block's context -/
abbrev BK (X : Cx) (s : Shared) (H : Hp) (scope : Scope) (C : Addr) (cl : List (Str × Addr)) (fp : List Addr) : Cx := X.blk s H scope (compEnvC scope cl C X.env) fp
/-- over all block contexts -/
def AE (X : Cx) (scope : Scope) (e : Expr) : TE := fun σ H Q => ∀ s H0 C cl fp, WE (BK X s H0 scope C cl fp) e σ H Q
def ATs (X : Cx) (scope : Scope) (ifs : List Expr) : TT := fun σ H Q => ∀ s H0 C cl fp pins s1, Inv (BK X s H0 scope C cl fp) pins σ H s1 →
    wpAny (model X.prog X.w) X.A (forIn ifs true fun c r => if r = true then do let ok ← isTrue c (compEnvC scope cl C X.env) (eval c (compEnvC scope cl C X.env)); pure (ForInStep.yield ok) else pure (ForInStep.yield r)) (TP (BK X s H0 scope C cl fp) pins σ Q) (fun _ _ => False) s1
theorem lc_data {l : List γ} {f : γ → δ} {t : γ → Bool} {J : It} {S : Hp → Prop} {Y : Nat → Hp → V → Hp → Prop} {g : TG} {B : γ → Hp → St → St → Prop} {tt : TT} {te : TE} {vs : List Nat} {G2 H2 : Hp} {Qd : V → Hp → Prop} {D : Addr}
    (w : Walk J l.length S Y) (hS : ∀ H', Same G2 H' → S H') (hY : ∀ i H x H', i < l.length → Y i H x H' → ∀ G', Same G2 G' → Same G' H → ∃ c G'', l[i]? = some c ∧ Gr G' H G'' H' ∧ rp G'' x c)
    (hB : TgB g B) (hw : ∀ c G' σ', B c G' (wipe σ vs) σ' → wipe σ' vs = wipe σ vs)
    (ht : ∀ c ∈ l, ∀ G' σ', Same G2 G' → B c G' (wipe σ vs) σ' → ∀ H' (Q : Bool → Hp → Prop), Same G' H' → (∀ G3 H3, Gr G' H' G3 H3 → Q (t c) H3) → tt σ' H' Q)
    (he : ∀ c ∈ l, t c = true → ∀ G' σ', Same G2 G' → B c G' (wipe σ vs) σ' → ∀ G1 H' (Q : VK), Same G' G1 → Same G1 H' → (∀ G3 H3 v, Gr G1 H' G3 H3 → rp G3 v (f c) → Q v H3) → te σ' H' Q)
    (hz : l.length < sizeLine) (s2 : Same G2 H2) (hD : H2 D = none) (k : ∀ G3 H3 v, Gr G2 H2 G3 H3 → rp G3 v ((l.filter t).map f) → Qd v H3) :
    ∃ W : Nat → Nat → Hp → Prop, (∃ m, W 0 m (upd H2 D (.lst []))) ∧ ∀ i m H, W i m H →
      (J.stop i H ∧ Qd (.ref D) H) ∨ (J.go i H ∧ ∃ Nx : Hp → Prop, (∀ H', Nx H' → ∃ m', m' < m ∧ W (i + 1) m' H') ∧ ∀ x H', J.yld i H x H' → g x (wipe σ vs) H' fun σ2 H2 => wipe σ2 vs = wipe σ vs ∧ tt σ2 H2 fun b H3 =>
        if b = true then te σ2 H3 fun y H4 => ∃ acc, H4 D = some (.lst acc) ∧ acc.length < sizeLine ∧ Nx (upd H4 D (.lst (acc ++ [y]))) else Nx H3) := by
  have gD : G2 D = none := s2.free hD
  refine lc_it (Qd := fun H => Qd (.ref D) H) w (fun i H => ∃ G3 acc, Gr G2 H2 G3 H ∧ G3 D = none ∧ H D = some (.lst acc) ∧ Paired (rp G3) acc (((l.take i).filter t).map f)) ?_ ?_ ?_ ?_
  · exact ⟨G2, [], Gr.newM s2 hD, gD, upd_same, .nil⟩
  · rintro i H _ ⟨G3, acc, g3, _⟩
    exact hS H (g3.g.trans g3.s)
  · rintro i x H H' hi ⟨G3, acc, g3, nD, hacc, pr⟩ y
    obtain ⟨c, G4, hc, g4, r⟩ := hY i H x H' hi y G3 g3.g g3.s
    have hcl : c ∈ l := List.mem_of_getElem? hc
    have nD4 : G4 D = none := g4.f D nD (by rw [hacc]; exact fun z => nomatch z)
    have hacc4 : H' D = some (.lst acc) := g4.hh _ _ hacc
    have htk : l.take (i + 1) = l.take i ++ [c] := by rw [List.take_succ, hc]; rfl
    refine hB c G4 H' x _ _ g4.s r fun σ' b => ⟨hw c G4 σ' b, ?_⟩
    refine ht c hcl G4 σ' (g3.g.trans g4.g) b H' _ g4.s fun G5 H5 g5 => ?_
    have nD5 : G5 D = none := g5.f D nD4 (by rw [hacc4]; exact fun z => nomatch z)
    have hacc5 : H5 D = some (.lst acc) := g5.hh _ _ hacc4
    have g05 : Gr G2 H2 G5 H5 := (g3.trans g4).trans g5
    by_cases hb : t c = true
    · rw [if_pos hb]
      refine he c hcl hb G4 σ' (g3.g.trans g4.g) b G5 H5 _ g5.g g5.s fun G6 H6 v g6 r6 => ?_
      have nD6 : G6 D = none := g6.f D nD5 (by rw [hacc5]; exact fun z => nomatch z)
      refine ⟨acc, g6.hh _ _ hacc5, ?_, G6, acc ++ [v], ?_, nD6, upd_same, ?_⟩
      · have e1 := pr.length
        rw [List.length_map] at e1
        have e2 := List.length_filter_le t (l.take i)
        rw [List.length_take] at e2
        omega
      · have g06 := g05.trans g6
        refine ⟨g06.g, fun b' o nb e => ?_, fun b' o e => ?_, g06.f, fun b' n => upd_some (g06.d b' n)⟩
        · rw [upd_ne (ne_of_none e hD)]; exact g06.h b' o nb e
        · rw [upd_ne (ne_of_none e nD6)]; exact g06.s b' o e
      · rw [htk, List.filter_append, List.map_append]
        have e1 : ([c].filter t).map f = [f c] := by simp [List.filter, hb]
        rw [e1]
        exact r2_cat.PairedAppend (pmono pr fun _ _ => rup ((g4.trans g5).trans g6).g) (.cons r6 .nil)
    · rw [if_neg hb]
      refine ⟨G5, acc, g05, nD5, hacc5, ?_⟩
      rw [htk, List.filter_append, List.map_append]
      have e1 : ([c].filter t).map f = [] := by simp [List.filter, hb]
      rw [e1, List.append_nil]
      exact pmono pr fun _ _ => rup (g4.trans g5).g
  · rintro H ⟨G3, acc, g3, nD, hacc, pr⟩
    rw [List.take_length] at pr
    refine k (upd G3 D (.lst acc)) H (.ref D) ⟨g3.g.trans (same_new nD), g3.h, fun b' o e => ?_, fun b' e n => ?_, g3.d⟩ ⟨D, acc, rfl, upd_same, pmono pr fun _ _ => rup (same_new nD)⟩
    · by_cases hb : b' = D
      · subst hb; rw [upd_same] at e; cases e; exact hacc
      · rw [upd_ne hb] at e; exact g3.s b' o e
    · rw [upd_ne (fun z => n (by rw [z]; exact hD))]; exact g3.f b' e n
/-- [elt for target in iter if ..] -/
theorem Ev.lc {elt iter : Expr} {ifs : List Expr} {scope : Scope} {own : List (Str × Nat)} {l : List γ} {f : γ → δ} {t : γ → Bool} {g : TG} {B : γ → Hp → St → St → Prop}
    (hi : EI X tg iter σ G l) (hB : TgB g B) (hg : ∀ (s : Shared) (H : Hp) (C : Addr) (cl : List (Str × Addr)) (fp : List Addr), PG (BK X s H scope C cl fp) tg g)
    (ht : ∀ c ∈ l, ∀ G' σ', Same G G' → B c G' (wipe σ (own.map (·.2))) σ' → ∀ s H C cl fp, ETs (BK X s H scope C cl fp) ifs σ' G' (t c))
    (he : ∀ c ∈ l, t c = true → ∀ G' σ', Same G G' → B c G' (wipe σ (own.map (·.2))) σ' → ∀ s H C cl fp, Ev (BK X s H scope C cl fp) elt σ' G' (f c))
    (hw : ∀ c G' σ', B c G' (wipe σ (own.map (·.2))) σ' → wipe σ' (own.map (·.2)) = wipe σ (own.map (·.2)))
    (hz : l.length < sizeLine) (hN : X.N.Nodup) (ok : BlkOk X.N X.env.scope scope own) (hc : X.calm = true := by rfl) (hs : ∀ x, foldedSetIterable iter X.env x = pure x := by intro _; rfl) :
    Ev X (.ListComp elt [⟨tg, iter, ifs, 0⟩] scope pos) σ G ((l.filter t).map f) := fun G1 H1 Q s1 s2 k =>
  WE.of (pe_lc (tt := ATs X scope ifs) (te := AE X scope elt) hc hN pi_wi ok hg (fun s H C cl fp => ⟨fun pins s1 σ' H' Q' I h => h s H C cl fp pins s1 I⟩) (fun s H C cl fp => ⟨fun pins s1 σ' H' Q' I h => h s H C cl fp pins s1 I⟩) hs)
    (hi G1 H1 _ s1 s2 fun J S Y G2 H2 g2 w hS hY D hD => lc_data (Qd := Q) w hS hY hB hw
      (fun c hc' G' σ' sG b H' Q' s3 k' s H C cl fp pins s1' I => ht c hc' G' σ' ((s1.trans g2.g).trans sG) b s H C cl fp G' H' Q' (Same.refl _) s3 k' pins s1' I)
      (fun c hc' tc G' σ' sG b G1' H' Q' s3 s4 k' s H C cl fp => he c hc' tc G' σ' ((s1.trans g2.g).trans sG) b s H C cl fp G1' H' Q' s3 s4 k')
      hz g2.s hD fun G3 H3 v g3 r => k G3 H3 v (g2.trans g3) r)
/-- y = [..] on one line, y a local name -/
theorem Bl.asgLc (i : Nat) {y : Str} {py spos : Pos} {elt iter : Expr} {ifs : List Expr} {scope : Scope} {own : List (Str × Nat)} {l : List γ} {f : γ → δ} {t : γ → Bool} {g : TG} {B : γ → Hp → St → St → Prop}
    (hi : EI X tg iter σ G l) (hB : TgB g B) (hg : ∀ (s : Shared) (H : Hp) (C : Addr) (cl : List (Str × Addr)) (fp : List Addr), PG (BK X s H scope C cl fp) tg g)
    (ht : ∀ c ∈ l, ∀ G' σ', Same G G' → B c G' (wipe σ (own.map (·.2))) σ' → ∀ s H C cl fp, ETs (BK X s H scope C cl fp) ifs σ' G' (t c))
    (he : ∀ c ∈ l, t c = true → ∀ G' σ', Same G G' → B c G' (wipe σ (own.map (·.2))) σ' → ∀ s H C cl fp, Ev (BK X s H scope C cl fp) elt σ' G' (f c))
    (hw : ∀ c G' σ', B c G' (wipe σ (own.map (·.2))) σ' → wipe σ' (own.map (·.2)) = wipe σ (own.map (·.2)))
    (hz : l.length < sizeLine) (hN : X.N.Nodup) (ok : BlkOk X.N X.env.scope scope own)
    (k : ∀ G' v, Same G G' → rp G' v ((l.filter t).map f) → Bl X rest (σ.set i (some v)) G' N R)
    (hsw : swapsWith (.ListComp elt [⟨tg, iter, ifs, 0⟩] scope pos) (some (.Name y py)) spos.line X.env = pure true) (hc : X.calm = true := by rfl) (hy : X.N[i]? = some y := by rfl) (hyl : X.env.scope.names.lookup y = some .local := by rfl) (hs : ∀ x, foldedSetIterable iter X.env x = pure x := by intro _; rfl) :
    Bl X (.Assign [.Name y py] (.ListComp elt [⟨tg, iter, ifs, 0⟩] scope pos) spos :: rest) σ G N R := fun G1 H1 D s1 s2 kn kr =>
  WS.cons (ps_setLc (tt := ATs X scope ifs) (te := AE X scope elt) hc hN hy hyl hsw pi_wi ok hg (fun s H C cl fp => ⟨fun pins s1 σ' H' Q' I h => h s H C cl fp pins s1 I⟩) (fun s H C cl fp => ⟨fun pins s1 σ' H' Q' I h => h s H C cl fp pins s1 I⟩) hs)
    (hi G1 H1 _ s1 s2 fun J S Y G2 H2 g2 w hS hY L hL => lc_data (Qd := fun v H3 => WS X rest D (σ.set i (some v)) H3) w hS hY hB hw
      (fun c hc' G' σ' sG b H' Q' s3 k' s H C cl fp pins s1' I => ht c hc' G' σ' ((s1.trans g2.g).trans sG) b s H C cl fp G' H' Q' (Same.refl _) s3 k' pins s1' I)
      (fun c hc' tc G' σ' sG b G1' H' Q' s3 s4 k' s H C cl fp => he c hc' tc G' σ' ((s1.trans g2.g).trans sG) b s H C cl fp G1' H' Q' s3 s4 k')
      hz g2.s hL fun G3 H3 v g3 r => k G3 v (s1.trans (g2.trans g3).g) r G3 H3 D (Same.refl _) g3.s (fun G4 H4 σ' g4 => kn G4 H4 σ' ((g2.trans g3).trans g4)) fun G4 H4 v g4 => kr G4 H4 v ((g2.trans g3).trans g4))
/-! ### loops that only bind names -/
theorem Bl.for_ {iter : Expr} {body : List Stmt} {l : List γ} {g : TG} {B : γ → Hp → St → St → Prop} (I : Nat → St → Hp → Prop)
    (hi : EI X tg iter σ G l) (hB : TgB g B) (hg : PG X tg g) (h0 : ∀ G', Same G G' → I 0 σ G')
    (hs : ∀ i c σ1 G1, l[i]? = some c → Same G G1 → I i σ1 G1 → ∀ G2 σ2, Same G1 G2 → B c G2 σ1 σ2 → Bl X body σ2 G2 (I (i + 1)) R)
    (k : ∀ σ1 G1, Same G G1 → I l.length σ1 G1 → Bl X rest σ1 G1 N R) (hp : PassesOwn (model X.prog X.w) X.A X.env X.xe) (hc : X.calm = true := by rfl)
    (hso : ∀ x, foldedSetIterable iter X.env x = pure x := by intro _; rfl) : Bl X (.For tg iter body [] pos :: rest) σ G N R := fun G1 H1 D s1 s2 kn kr =>
  WS.cons (ps_for hp hc pi_wi hg pss_ws hso) (hi G1 H1 _ s1 s2 fun J S Y G2 H2 g2 w hS hY => for_it w (fun i σ' H' => ∃ G3, Gr G2 H2 G3 H' ∧ I i σ' G3) ⟨G2, GrM.refl g2.s, h0 G2 (s1.trans g2.g)⟩
    (fun i σ' H' _ ⟨G3, g3, _⟩ => hS H' (g3.g.trans g3.s))
    (fun i x σ' H' H'' hi' ⟨G3, g3, h3⟩ y => by
      obtain ⟨c, G4, hc', g4, r⟩ := hY i H' x H'' hi' y G3 g3.g g3.s
      refine hB c G4 H'' x _ _ g4.s r fun σ2 b => ?_
      exact hs i c σ' G3 hc' ((s1.trans g2.g).trans g3.g) h3 G4 σ2 g4.g b G4 H'' _ (Same.refl _) g4.s (fun G5 H5 σ5 g5 n => ⟨G5, (g3.trans g4).trans g5, n⟩) fun G5 H5 v g5 q => kr G5 H5 v (((g2.trans g3).trans g4).trans g5) q)
    fun σ' H' ⟨G3, g3, h3⟩ => k σ' G3 ((s1.trans g2.g).trans g3.g) h3 G3 H' D (Same.refl _) g3.s (fun G4 H4 σ4 g4 => kn G4 H4 σ4 ((g2.trans g3).trans g4)) fun G4 H4 v g4 => kr G4 H4 v ((g2.trans g3).trans g4))
end
end D1

namespace D1
open PySem L2 Rp
open PyProof.Rows (SetOf_congr StrsAre)

/-! ### set(xs), xs a list of texts of any length below the bound -/
/-- one more item, unless it is there -/
def dd (acc : List Str) (x : Str) : List Str := if acc.any (fun y => y == x) then acc else acc ++ [x]
def dds (l : List Str) : List Str := l.foldl dd []
theorem dd_len (acc : List Str) (x : Str) : (dd acc x).length ≤ acc.length + 1 := by unfold dd; split <;> simp
theorem foldl_dd_len : ∀ (l acc : List Str), (l.foldl dd acc).length ≤ acc.length + l.length
  | [], acc => by simp
  | x :: l, acc => by
    have h1 := foldl_dd_len l (dd acc x)
    have h2 := dd_len acc x
    simp only [List.foldl_cons, List.length_cons]
    omega
theorem dds_len (l : List Str) : (dds l).length ≤ l.length := by have := foldl_dd_len l []; simpa [dds] using this
theorem mem_dd {acc : List Str} {x y : Str} : y ∈ dd acc x ↔ y ∈ acc ∨ y = x := by
  unfold dd
  split
  · rename_i h
    obtain ⟨z, hz, e⟩ := List.any_eq_true.mp h
    have e' : z = x := by simpa using e
    constructor
    · exact .inl
    · rintro (h | rfl)
      · exact h
      · exact e' ▸ hz
  · simp
theorem mem_foldl_dd {y : Str} : ∀ {l acc : List Str}, y ∈ l.foldl dd acc ↔ y ∈ acc ∨ y ∈ l
  | [], acc => by simp
  | x :: l, acc => by
    rw [List.foldl_cons, mem_foldl_dd, mem_dd, List.mem_cons, or_assoc]
theorem mem_dds {l : List Str} {y : Str} : y ∈ dds l ↔ y ∈ l := by unfold dds; rw [mem_foldl_dd]; simp
theorem nodup_dd {acc : List Str} {x : Str} (h : acc.Nodup) : (dd acc x).Nodup := by
  unfold dd
  split
  · exact h
  · rename_i hn
    rw [List.nodup_append]
    refine ⟨h, by simp, fun a ha b hb e => hn ?_⟩
    have e2 : b = x := by simpa using hb
    exact List.any_eq_true.mpr ⟨a, ha, by simp [e, e2]⟩
theorem nodup_foldl_dd : ∀ {l acc : List Str}, acc.Nodup → (l.foldl dd acc).Nodup
  | [], _, h => h
  | x :: l, acc, h => nodup_foldl_dd (l := l) (acc := dd acc x) (nodup_dd h)
theorem nodup_dds (l : List Str) : (dds l).Nodup := nodup_foldl_dd List.nodup_nil
theorem foldl_dd_nodup : ∀ {l acc : List Str}, (acc ++ l).Nodup → l.foldl dd acc = acc ++ l
  | [], acc, _ => by simp
  | x :: l, acc, h => by
    have hx : dd acc x = acc ++ [x] := by
      unfold dd
      rw [if_neg]
      intro hh
      obtain ⟨z, hz, e⟩ := List.any_eq_true.mp hh
      have e' : z = x := by simpa using e
      rw [List.nodup_append] at h
      exact h.2.2 z hz x (by simp) e'
    rw [List.foldl_cons, hx, foldl_dd_nodup (by simpa using h)]
    simp
theorem dds_nodup {l : List Str} (h : l.Nodup) : dds l = l := by unfold dds; rw [foldl_dd_nodup (by simpa using h)]; simp
/-- the sizes are one just if none stands twice -/
theorem dds_length_iff (l : List Str) : (dds l).length = l.length ↔ l.Nodup := by
  constructor
  · intro h
    have key : ∀ (l acc : List Str), acc.Nodup → (l.foldl dd acc).length = acc.length + l.length → (acc ++ l).Nodup := by
      intro l
      induction l with
      | nil => intro acc h _; simpa using h
      | cons x l ih =>
        intro acc h e
        simp only [List.foldl_cons, List.length_cons] at e
        have h1 := foldl_dd_len l (dd acc x)
        have h2 := dd_len acc x
        have h3 : (dd acc x).length = acc.length + 1 := by omega
        have h4 : dd acc x = acc ++ [x] := by
          unfold dd at h3 ⊢
          split
          · rename_i hh; rw [if_pos hh] at h3; omega
          · rfl
        have h5 := ih (dd acc x) (nodup_dd h) (by omega)
        rw [h4] at h5
        simpa using h5
    have := key l [] List.nodup_nil (by simpa [dds] using h)
    simpa using this
  · intro h; rw [dds_nodup h]
theorem dd_any (acc : List Str) (x k : Str) : (dd acc x).any (fun y => y == k) = (acc.any (fun y => y == k) || decide (k = x)) := by
  rw [Bool.eq_iff_iff, Bool.or_eq_true, List.any_eq_true, List.any_eq_true, decide_eq_true_eq]
  constructor
  · rintro ⟨z, hz, e⟩
    rcases mem_dd.mp hz with h | h
    · exact .inl ⟨z, h, e⟩
    · right; have : z = k := by simpa using e
      rw [← this]; exact h
  · rintro (⟨z, hz, e⟩ | h)
    · exact ⟨z, mem_dd.mpr (.inl hz), e⟩
    · exact ⟨x, mem_dd.mpr (.inr rfl), by simp [h]⟩
theorem dd_length (acc : List Str) (x : Str) : (dd acc x).length = if acc.any (fun y => y == x) then acc.length else acc.length + 1 := by unfold dd; split <;> simp

/-- the state of the set behind i items -/
abbrev SetTo (P : Program) (w : World) (S : Addr) (xs : List Str) (i : Nat) (h : Heap) : Prop :=
  h.SetOf (PySem.strKind P w) S (fun k => (dds (xs.take i)).any fun y => y == k) (dds (xs.take i)).length
theorem dds_snoc {xs : List Str} {i : Nat} {x : Str} (h : xs[i]? = some x) : dds (xs.take (i + 1)) = dd (dds (xs.take i)) x := by
  have e : xs.take (i + 1) = xs.take i ++ [x] := by rw [List.take_succ, h]; rfl
  unfold dds
  rw [e, List.foldl_append]; rfl

section
variable {P : Program} {w : World} {A : Around} {R : Result → Shared → Prop} {it : Addr} {fp wr : List Addr} {Gm : Array GenState → Array GenState → Prop} {Pv : Nat → Value → Prop} {St : Nat → Shared → Prop}
theorem setLoop (xs : List Str) (W : WalksS P w A.in1 it fp wr Gm xs.length Pv St) (S : Addr) (hS0 : S ∉ fp) (hv : ∀ i v, Pv i v → ∃ x t, xs[i]? = some x ∧ v = .str x t) (hb : xs.length + 1 < scanBound)
    (m : Nat) : ∀ (i : Nat) (s : Shared), i + m = xs.length → St i s → SetTo P w S xs i s.heap →
      (∀ s', Moved (S :: wr) Gm s s' → SetTo P w S xs xs.length s'.heap → R (.ok (.ret .none)) s') →
      codeAny (model P w) A (.builtin "set.update.loop" ⟨[.ref S, .ref it], []⟩) R s := by
  have nw : S ∉ wr := fun h => hS0 (W.sub _ h)
  have sw : ∀ c ∈ wr, c ∈ S :: wr := fun c h => List.mem_cons_of_mem _ h
  induction m with
  | zero =>
    intro i s hi hst hs hR
    obtain rfl : i = xs.length := by omega
    refine codeAny_builtin PyProof.Rows.F.entry_set_update_loop ?_
    rw [Around.under_plainId PyProof.Rows.F.plain_set_update_loop _]
    show wpAny _ A.in1 (pyNext (.ref it) >>= _) _ _ s
    refine wpAny_bind (W.done s _ _ hst fun s1 mv => ?_)
    show wpAny _ A.in1 (ret Value.none) _ _ s1
    refine wpAny_pure (hR s1 (mv.mono sw) ?_)
    obtain ⟨ob, es, ep, tb, h1, h2⟩ := hs
    exact ⟨ob, es, ep, tb, mv.heap S _ nw h1, h2⟩
  | succ m ih =>
    intro i s hi hst hs hR
    refine codeAny_builtin PyProof.Rows.F.entry_set_update_loop ?_
    rw [Around.under_plainId PyProof.Rows.F.plain_set_update_loop _]
    show wpAny _ A.in1 (pyNext (.ref it) >>= _) _ _ s
    refine wpAny_bind (W.item i s _ _ (by omega) hst fun v s1 hP hst1 mv => ?_)
    obtain ⟨x, tk, hx, rfl⟩ := hv i v hP
    have hs1 : SetTo P w S xs i s1.heap := by
      obtain ⟨ob, es, ep, tb, h1, h2⟩ := hs
      exact ⟨ob, es, ep, tb, mv.heap S _ nw h1, h2⟩
    show wpAny _ A.in1 (holding [Value.str x tk] (setAdd S (.str x tk)) >>= _) _ _ s1
    refine wpAny_bind (wpAny_holding ?_)
    unfold setAdd
    refine wpAny_holding (wpAny_bind ((PySem.strKind P w).pyHash (k := x) (strKind_is _ _ _ _) ?_))
    have room : (dds (xs.take i)).length + 1 < scanBound := by
      have h1 := dds_len (xs.take i)
      have h2 : (xs.take i).length ≤ xs.length := by rw [List.length_take]; omega
      omega
    refine wpAny_setAddHashed_of (knd := PySem.strKind P w) (s := { s1 with toks := s1.toks + 1 }) (strKind_is _ _ _ _) rfl hs1 room fun h2 sb hs2 => ?_
    have hs3 : SetTo P w S xs (i + 1) h2 := SetOf_congr hs2 (fun k => by rw [dds_snoc hx, dd_any]) (by rw [dds_snoc hx, dd_length])
    refine wpAny_pure ⟨plainId_quiet PyProof.Rows.F.plain_set_update_loop _, ih (i + 1) _ (by omega) ?_ hs3 fun s3 mv3 hs4 => ?_⟩
    · refine W.frame _ s1 _ _ hst1 (Nat.le_succ _) fun c hc o e => ?_
      rw [sb.2 c (fun z : c = S => hS0 (by rw [← z]; exact hc))]
      exact e
    · refine hR s3 (Moved.trans W.gtrans ((mv.mono sw).then_heap (Nat.le_succ _) fun c o hc e => ?_) mv3) hs4
      rw [sb.2 c (fun z : c = S => hc (by rw [z]; exact List.mem_cons_self))]
      exact e
end
section
variable {P : Program} {w : World} {A : Around} {E : Value → Shared → Prop} {s : Shared}
theorem call_setStrs {l : Addr} {items : Array Value} (xs : List Str) {Q : Value → Shared → Prop} (hh : A.handled = none) (hl : s.heap.IsList l items) (hi : StrsAre items.toList xs) (hb : xs.length + 1 < scanBound)
    (k : ∀ (h' : Heap) (tk : Nat), h'.SetOf (PySem.strKind P w) s.heap.objs.size (fun k => (dds xs).any fun y => y == k) (dds xs).length → (∀ c o, c < s.heap.objs.size → s.heap.get? c = some o → h'.get? c = some o) → Q (.ref s.heap.objs.size) { s with heap := h', toks := tk }) :
    wpAny (model P w) A (call (.type "set") [.ref l]) Q E s := by
  have zz : xs.length = items.size := by rw [← StrsAre.len_eq hi, Array.length_toList]
  obtain ⟨_, _, aMro⟩ := PySem.F.called_set.mro
  have aMade := PySem.F.called_set.made
  have aSub := PySem.F.called_set.sub
  refine wpAny_call (codeAny_of_tree (show wpAny _ _ (callAny (.type "set") _) _ _ _ from wpAny_pure ⟨Code.quiet_builtin _ (by decide +kernel), codeAny_builtin PySem.F.entry_type_call ?_⟩))
  rw [Around.under_plain (weight_type_call_type "set" [.ref l] []) rfl]
  have aNot := PySem.F.called_set.notType
  have aCan := PySem.F.called_set.canCreate
  have aTc := PySem.F.typeCall_set_1 (.ref l)
  repeat (any_goals (first | assumption | wp_step))
  refine codeAny_mono (code_set_new_1 (.ref l) (E := E) (Q₁ := fun ob s1 => ∃ led : Bool, ob = .ref s.heap.objs.size ∧ s1 = { s with heap := s.heap.push { cls := .type "set", dict := none, data := .set #[] 0 (.fresh 0 0 led) } }) fun led => ⟨led, rfl, rfl⟩) fun r s1 hr => ?_
  match r, hr with
  | .error _, hr => exact hr
  | .ok .next, hr => exact hr.elim
  | .ok .brk, hr => exact hr.elim
  | .ok .cont, hr => exact hr.elim
  | .ok (.ret ob), ⟨led, e1, e2⟩ =>
    subst e1 e2
    have g0 := Heap.get?_push_size (o := ({ cls := .type "set", dict := none, data := .set #[] 0 (.fresh 0 0 led) } : Obj)) s.heap rfl
    have tS : Shared.TypeIs { s with heap := s.heap.push ({ cls := .type "set", dict := none, data := .set #[] 0 (.fresh 0 0 led) } : Obj) } (.ref s.heap.objs.size) "set" := ⟨_, g0, rfl⟩
    have aLi := PySem.F.called_set.init.lookup
    have aBi := PySem.F.called_set.init.bind (.ref s.heap.objs.size)
    repeat (any_goals (first | assumption | wp_step))
    refine codeAny_mono (codeAny_call_builtin (R := wants (fun r s2 => r = .none ∧ ∃ h' tk, s2 = { s with heap := h', toks := tk } ∧ h'.SetOf (PySem.strKind P w) s.heap.objs.size (fun k => (dds xs).any fun y => y == k) (dds xs).length ∧
      (∀ c o, c < s.heap.objs.size → s.heap.get? c = some o → h'.get? c = some o)) E) PySem.F.called_set.init.plain PySem.F.entry_set_init (check_set_init_1 tS ?_)) fun r2 s2 hr2 => ?_
    · obtain ⟨ol, gl, cl, nl, dl⟩ := hl
      obtain ⟨ocls, odict, odata, oslots⟩ := ol
      simp only at cl dl
      subst cl dl
      have gl1 : (s.heap.push { cls := .type "set", dict := none, data := .set #[] 0 (.fresh 0 0 led) }).get? l = some { cls := .type "list", dict := odict, data := .seq items nl, slots := oslots } :=
        Heap.get?_push_of_some _ gl
      have aLs := PySem.F.sub_list_set
      have aLf := PySem.F.sub_list_frozenset
      have aNe : (Value.type "list" == Value.type "dict") = false := by decide
      have hl1 : (s.heap.push { cls := .type "set", dict := none, data := .set #[] 0 (.fresh 0 0 led) }).IsList l items := ⟨_, gl1, rfl, nl, rfl⟩
      unfold Builtin.«set.__init__» noKeywords Builtin.Frozenset.updateFrom
      generalize hPI : pyIter = PI
      wp_walk
      subst hPI
      refine wpAny_pyIter_list hl1 (wpAny_bind (wpAny_runValue ?_))
      have lS : l < s.heap.objs.size := Heap.lt_size gl
      have h3 : A.in1.in1.in1.handled = none := by simp [hh]
      have lI : l ≠ (s.heap.push { cls := .type "set", dict := none, data := .set #[] 0 (.fresh 0 0 led) }).objs.size := by rw [Heap.size_push]; exact Nat.ne_of_lt (Nat.lt_succ_of_lt lS)
      have nS : s.heap.objs.size ∉ [(s.heap.push { cls := .type "set", dict := none, data := .set #[] 0 (.fresh 0 0 led) }).objs.size, l] := by
        rw [Heap.size_push]
        simp only [List.mem_cons, List.not_mem_nil, or_false, not_or]
        exact ⟨Nat.ne_of_lt (Nat.lt_succ_self _), Nat.ne_of_gt lS⟩
      have W := (Walks.list (prog := P) (w := w) h3 (s.heap.push { cls := .type "set", dict := none, data := .set #[] 0 (.fresh 0 0 led) }).objs.size l lI items).toS
      rw [← zz] at W
      refine setLoop xs W s.heap.objs.size nS (fun i v hv => ?_) hb xs.length 0 _ (by omega) ⟨⟨_, Heap.get?_push_size _ rfl, rfl, rfl⟩, hl1.push _⟩ ?_ fun s5 mv hs5 => ?_
      · obtain ⟨tk, ev⟩ := SS.strs_at hi i v (by rw [Array.getElem?_toList]; exact hv)
        have hlt : i < xs.length := by rw [zz]; exact (Array.getElem?_eq_some_iff.mp hv).1
        exact ⟨xs.getD i Str.empty, tk, by simp [List.getD, hlt], ev⟩
      · have g2 : ((s.heap.push { cls := .type "set", dict := none, data := .set #[] 0 (.fresh 0 0 led) }).push { cls := .type "list_iterator", data := .fields #[.ref l, .int 0 0] }).get? s.heap.objs.size = some { cls := .type "set", dict := none, data := .set #[] 0 (.fresh 0 0 led) } :=
          Heap.get?_push_of_some _ g0
        exact SetOf_congr ((PyProof.Rows.setObjOf_fresh (knd := PySem.strKind P w) led).setOf g2 (by unfold scanBound; omega)) (fun _ => by simp [dds]) (by simp [dds])
      · obtain ⟨h5, g5, d5, t5, o5⟩ := s5
        obtain rfl : g5 = s.gens := mv.gens
        obtain rfl : d5 = s.drawn := mv.drawn
        obtain rfl : o5 = s.os := mv.os
        show wpAny _ _ _ _ _ _
        refine wpAny_pure ?_
        show wpAny _ _ (ret Value.none) _ _ _
        refine wpAny_pure ⟨rfl, h5, t5, rfl, SetOf_congr hs5 (fun _ => by rw [List.take_length]) (by rw [List.take_length]), fun c o hc e => mv.heap c o ?_ (Heap.get?_push_of_some _ (Heap.get?_push_of_some _ e))⟩
        have n1 : c ≠ s.heap.objs.size := Nat.ne_of_lt hc
        have n2 : c ≠ (s.heap.push { cls := .type "set", dict := none, data := .set #[] 0 (.fresh 0 0 led) }).objs.size := by rw [Heap.size_push]; exact Nat.ne_of_lt (Nat.lt_succ_of_lt hc)
        simp only [List.mem_cons, List.not_mem_nil, or_false, not_or]
        exact ⟨n1, n2⟩
    · match r2, hr2 with
      | .error _, hr2 => exact hr2
      | .ok .next, hr2 => exact hr2.elim
      | .ok .brk, hr2 => exact hr2.elim
      | .ok .cont, hr2 => exact hr2.elim
      | .ok (.ret r), ⟨e1, h', tk, e2, hS', hk'⟩ =>
        subst e1 e2
        repeat (any_goals (first | assumption | wp_step))
        exact k _ _ hS' hk'
end
end D1

namespace D1
open PySem L2 Rp

/-! ### the order of texts -/
open PySem.Spec (ltCps)
theorem ltc_irrefl : ∀ l : List Nat, ltCps l l = false
  | [] => rfl
  | a :: r => by simp [ltCps, ltc_irrefl r]
theorem ltc_asymm : ∀ {l m : List Nat}, ltCps l m = true → ltCps m l = false
  | [], [], h => by simp [ltCps] at h
  | [], _ :: _, _ => rfl
  | _ :: _, [], h => by simp [ltCps] at h
  | a :: r, b :: t, h => by
    simp only [ltCps, Bool.or_eq_true, decide_eq_true_eq, Bool.and_eq_true, beq_iff_eq] at h
    simp only [ltCps, Bool.or_eq_false_iff, decide_eq_false_iff_not, Bool.and_eq_false_iff, beq_eq_false_iff_ne]
    rcases h with h | ⟨h1, h2⟩
    · exact ⟨by omega, .inl (by omega)⟩
    · exact ⟨by omega, .inr (ltc_asymm h2)⟩
theorem ltc_trans : ∀ {l m n : List Nat}, ltCps l m = true → ltCps m n = true → ltCps l n = true
  | [], [], _, h, _ => by simp [ltCps] at h
  | [], _ :: _, [], _, h => by simp [ltCps] at h
  | [], _ :: _, _ :: _, _, _ => rfl
  | _ :: _, [], _, h, _ => by simp [ltCps] at h
  | _ :: _, _ :: _, [], _, h => by simp [ltCps] at h
  | a :: r, b :: t, c :: u, h1, h2 => by
    simp only [ltCps, Bool.or_eq_true, decide_eq_true_eq, Bool.and_eq_true, beq_iff_eq] at h1 h2 ⊢
    rcases h1 with h1 | ⟨h1, h1'⟩
    · rcases h2 with h2 | ⟨h2, _⟩
      · exact .inl (by omega)
      · exact .inl (by omega)
    · rcases h2 with h2 | ⟨h2, h2'⟩
      · exact .inl (by omega)
      · exact .inr ⟨by omega, ltc_trans h1' h2'⟩
theorem ltc_tri : ∀ {l m : List Nat}, ltCps l m = false → ltCps m l = false → l = m
  | [], [], _, _ => rfl
  | [], _ :: _, h, _ => by simp [ltCps] at h
  | _ :: _, [], _, h => by simp [ltCps] at h
  | a :: r, b :: t, h1, h2 => by
    simp only [ltCps, Bool.or_eq_false_iff, decide_eq_false_iff_not, Bool.and_eq_false_iff, beq_eq_false_iff_ne] at h1 h2
    have e : a = b := by omega
    subst e
    rw [ltc_tri (h1.2.resolve_left (fun z => z rfl)) (h2.2.resolve_left (fun z => z rfl))]
def ltS (a b : Str) : Bool := ltCps a.cps.toList b.cps.toList
def leS (a b : Str) : Bool := !ltS b a
theorem leS_total (a b : Str) : (leS a b || leS b a) = true := by
  unfold leS ltS
  cases h : ltCps b.cps.toList a.cps.toList with
  | false => simp
  | true => simp [ltc_asymm h]
theorem leS_trans (a b c : Str) (h1 : leS a b = true) (h2 : leS b c = true) : leS a c = true := by
  unfold leS ltS at *
  simp only [Bool.not_eq_true'] at *
  cases h : ltCps c.cps.toList a.cps.toList with
  | false => rfl
  | true =>
    cases h3 : ltCps b.cps.toList c.cps.toList with
    | true => have := ltc_trans h3 h; rw [this] at h1; cases h1
    | false =>
      have e := ltc_tri h2 h3
      rw [e] at h; rw [h] at h1; cases h1
theorem str_ext {a b : Str} (h : a.cps.toList = b.cps.toList) : a = b := by
  obtain ⟨a⟩ := a; obtain ⟨b⟩ := b
  have : a = b := Array.toList_inj.mp h
  rw [this]
theorem leS_antisymm {a b : Str} (h1 : leS a b = true) (h2 : leS b a = true) : a = b := by
  unfold leS ltS at *
  simp only [Bool.not_eq_true'] at *
  exact str_ext (ltc_tri h2 h1)
def SortedS (l : List Str) : Prop := l.Pairwise fun a b => leS a b = true
/-- two sorted lists of the same items are one -/
theorem sorted_unique : ∀ {l m : List Str}, l.Perm m → SortedS l → SortedS m → l = m
  | [], m, p, _, _ => (List.nil_perm.mp p).symm
  | a :: l, [], p, _, _ => absurd p.length_eq (by simp)
  | a :: l, b :: m, p, h1, h2 => by
    have hab : a = b := by
      have ha : a ∈ b :: m := p.mem_iff.mp (List.mem_cons_self)
      have hb : b ∈ a :: l := p.mem_iff.mpr (List.mem_cons_self)
      rcases List.mem_cons.mp ha with e | ha
      · exact e
      rcases List.mem_cons.mp hb with e | hb
      · exact e.symm
      exact leS_antisymm (List.rel_of_pairwise_cons h1 hb) (List.rel_of_pairwise_cons h2 ha)
    subst hab
    rw [sorted_unique (List.Perm.cons_inv p) (List.Pairwise.of_cons h1) (List.Pairwise.of_cons h2)]
def sortS (l : List Str) : List Str := l.mergeSort leS
theorem sortS_perm (l : List Str) : (sortS l).Perm l := List.mergeSort_perm l leS
theorem sortS_sorted (l : List Str) : SortedS (sortS l) := List.pairwise_mergeSort leS_trans leS_total l
theorem sortS_eq {l m : List Str} (p : m.Perm l) (h : SortedS m) : sortS l = m := sorted_unique ((sortS_perm l).trans p.symm) (sortS_sorted l) h
theorem sortS_self {l : List Str} (h : SortedS l) : sortS l = l := sortS_eq (List.Perm.refl l) h
theorem sortS_length (l : List Str) : (sortS l).length = l.length := (sortS_perm l).length_eq
theorem mem_sortS {l : List Str} {x : Str} : x ∈ sortS l ↔ x ∈ l := (sortS_perm l).mem_iff
theorem sortS_congr {l m : List Str} (p : l.Perm m) : sortS l = sortS m := sortS_eq ((sortS_perm m).trans p.symm) (sortS_sorted m)
theorem sortS_nodup {l : List Str} (h : l.Nodup) : (sortS l).Nodup := (sortS_perm l).nodup_iff.mpr h
theorem rising_pw : ∀ (p : Str) (l : List Str), PyProof.Rows.risingS p l = true → SortedS (p :: l)
  | p, [], _ => by simp [SortedS]
  | p, x :: r, h => by
    have h' : (!ltCps x.cps.toList p.cps.toList && PyProof.Rows.risingS x r) = true := h
    rw [Bool.and_eq_true] at h'
    have ih := rising_pw x r h'.2
    refine List.Pairwise.cons (fun y hy => ?_) ih
    rcases List.mem_cons.mp hy with rfl | hy
    · exact h'.1
    · exact leS_trans p x y h'.1 (List.rel_of_pairwise_cons ih hy)
theorem sortedS_pw {l : List Str} (h : PyProof.Rows.sortedS l = true) : SortedS l := by
  cases l with
  | nil => exact List.Pairwise.nil
  | cons x r => exact rising_pw x r h

/-! ### built-ins -/
/-- the module's names shadow none of these -/
structure Bt (mg : Str → Option Value) : Prop where
  isinstance : mg "isinstance" = none
  len : mg "len" = none
  set : mg "set" = none
  list : mg "list" = none
  dict : mg "dict" = none
  tuple : mg "tuple" = none
  str : mg "str" = none
  int : mg "int" = none
  bool : mg "bool" = none
  sorted : mg "sorted" = none
  range : mg "range" = none
  enumerate : mg "enumerate" = none
  zip : mg "zip" = none
  sum : mg "sum" = none
  max : mg "max" = none
  min : mg "min" = none
class Ty (α : Type) [Rp α] where
  t : String
  ok : ∀ {K : PySem.W.Frag} {H : Hp} {v : V} {a : α}, rp H v a → TyX K H v (.type t)
instance : Ty Int := ⟨"int", fun h => by cases h; exact .base (.int _)⟩
instance : Ty Bool := ⟨"bool", fun h => by cases h; exact .base (.bl _)⟩
instance : Ty Str := ⟨"str", fun h => by cases h; exact .base (.str _)⟩
instance : Ty Unit := ⟨"NoneType", fun h => by cases h; exact .base .non⟩
instance {α : Type} [Rp α] : Ty (List α) := ⟨"list", fun ⟨p, xs, e, h, _⟩ => by subst e; exact .base (.lst h)⟩
instance {α β : Type} [Rp α] [Rp β] : Ty (α × β) := ⟨"tuple", fun ⟨p, x, y, e, h, _⟩ => by subst e; exact .base (.tup h)⟩
instance {α β γ : Type} [Rp α] [Rp β] [Rp γ] : Ty (T3 α β γ) := ⟨"tuple", fun ⟨p, x, y, z, e, h, _⟩ => by subst e; exact .base (.tup h)⟩
theorem boot_str' : bootBuiltins "str" = some (.type "str") := by decide +kernel
theorem boot_list' : bootBuiltins "list" = some (.type "list") := by decide +kernel
theorem boot_tuple' : bootBuiltins "tuple" = some (.type "tuple") := by decide +kernel
theorem boot_int' : bootBuiltins "int" = some (.type "int") := by decide +kernel
theorem boot_dict' : bootBuiltins "dict" = some (.type "dict") := by decide +kernel
theorem boot_set' : bootBuiltins "set" = some (.type "set") := by decide +kernel
theorem boot_isinstance' : bootBuiltins "isinstance" = some (.builtin "isinstance") := by decide +kernel
theorem boot_len' : bootBuiltins "len" = some (.builtin "len") := by decide +kernel
theorem boot_sorted' : bootBuiltins "sorted" = some (.builtin "sorted") := by decide +kernel
theorem boot_sum' : bootBuiltins "sum" = some (.builtin "sum") := by decide +kernel
theorem boot_max' : bootBuiltins "max" = some (.builtin "max") := by decide +kernel
theorem boot_min' : bootBuiltins "min" = some (.builtin "min") := by decide +kernel
theorem isi_str : kitB "str" "str" = some true := by decide +kernel
theorem isi_list : kitB "list" "list" = some true := by decide +kernel
theorem isi_tuple : kitB "tuple" "tuple" = some true := by decide +kernel
section
variable {α β γ δ : Type} [Rp α] [Rp β] [Rp γ] [Rp δ] {X : Cx} {e a b c tg : Expr} {σ : St} {G : Hp} {pos p q : Pos} {rest : List Stmt} {N : St → Hp → Prop} {R : V → Hp → Prop}
/-- a built-in of one argument, by values -/
def R1K (r : List V → Hp → VK → Prop) (x : α) (z : β) : Prop := ∀ G H v (Q : VK), Same G H → rp G v x → (∀ G2 H2 w, Gr G H G2 H2 → rp G2 w z → Q w H2) → r [v] H Q
theorem Ev.b1 {x : Str} {id : String} {r : List V → Hp → VK → Prop} {d : α} {z : β} (hc : CallR X (.builtin id) r) (hv : bootBuiltins x = some (.builtin id)) (hr : R1K r d z) (hm : X.mg x = none) (h : Ev X e σ G d) (hg : Gl X x := by rfl) (hn : x ≠ "__name__" := by decide) (hdb : (x == ("__debug__" : Str)) = false := by decide)
    (hs : starEach [e] X.env = (false, eval e X.env) :: starEach [] X.env := by rfl) (hpl : (backTo pos (starEach [] X.env)).any (·.1) = false := by rfl) : Ev X (.Call (.Name x p) [e] [] pos) σ G z := fun G1 H1 Q s1 s2 k =>
  WE.of (pe_callB hc hg hm hv (pa_cons pe_we pa_nil hs) hn hdb hs hpl) (h G1 H1 _ s1 s2 fun G2 H2 v g r1 => hr G2 H2 v Q g.s r1 fun G3 H3 w g2 r2 => k G3 H3 w (g.trans g2) r2)
theorem Ev.t1 {x : Str} {id : String} {r : List V → Hp → VK → Prop} {d : α} {z : β} (hc : CallR X (.type id) r) (hv : bootBuiltins x = some (.type id)) (hr : R1K r d z) (hm : X.mg x = none) (h : Ev X e σ G d) (hg : Gl X x := by rfl) (hn : x ≠ "__name__" := by decide) (hdb : (x == ("__debug__" : Str)) = false := by decide)
    (hs : starEach [e] X.env = (false, eval e X.env) :: starEach [] X.env := by rfl) (hpl : (backTo pos (starEach [] X.env)).any (·.1) = false := by rfl) : Ev X (.Call (.Name x p) [e] [] pos) σ G z := fun G1 H1 Q s1 s2 k =>
  WE.of (pe_callTy hc hg hm hv (pa_cons pe_we pa_nil hs) hn hdb hs hpl) (h G1 H1 _ s1 s2 fun G2 H2 v g r1 => hr G2 H2 v Q g.s r1 fun G3 H3 w g2 r2 => k G3 H3 w (g.trans g2) r2)
theorem Ev.lenL {l : List α} (B : Bt X.mg) (h : Ev X e σ G l) (hg : Gl X "len" := by rfl) (hs : starEach [e] X.env = (false, eval e X.env) :: starEach [] X.env := by rfl) (hpl : (backTo pos (starEach [] X.env)).any (·.1) = false := by rfl) : Ev X (.Call (.Name "len" p) [e] [] pos) σ G ((l.length : Nat) : Int) :=
  Ev.b1 call_len boot_len' (fun G H v Q s r k => by
    obtain ⟨q, xs, rfl, h1, pr⟩ := r
    exact ⟨_, xs.length, rfl, .inl ⟨xs, SqL.of (s _ _ h1), rfl⟩, k _ _ _ (GrM.refl s) (by show V.int _ = V.int _; rw [pr.length])⟩) B.len h hg (by decide) (by decide) hs hpl
theorem Ev.lenS {z : Str} (B : Bt X.mg) (h : Ev X e σ G z) (hz : z.length ≤ sizeLine) (hg : Gl X "len" := by rfl) (hs : starEach [e] X.env = (false, eval e X.env) :: starEach [] X.env := by rfl) (hpl : (backTo pos (starEach [] X.env)).any (·.1) = false := by rfl) : Ev X (.Call (.Name "len" p) [e] [] pos) σ G ((z.length : Nat) : Int) :=
  Ev.b1 call_len boot_len' (fun G H v Q s r k => by
    cases r
    exact ⟨_, z.length, rfl, ⟨hz, rfl⟩, k _ _ _ (GrM.refl s) rfl⟩) B.len h hg (by decide) (by decide) hs hpl
theorem Ev.len2 {z : α × β} (B : Bt X.mg) (h : Ev X e σ G z) (hg : Gl X "len" := by rfl) (hs : starEach [e] X.env = (false, eval e X.env) :: starEach [] X.env := by rfl) (hpl : (backTo pos (starEach [] X.env)).any (·.1) = false := by rfl) : Ev X (.Call (.Name "len" p) [e] [] pos) σ G (2 : Int) :=
  Ev.b1 call_len boot_len' (fun G H v Q s r k => by
    obtain ⟨q, x, y, rfl, h1, _⟩ := r
    exact ⟨_, 2, rfl, .inr ⟨[x, y], SqT.of (s _ _ h1), rfl⟩, k _ _ _ (GrM.refl s) rfl⟩) B.len h hg (by decide) (by decide) hs hpl
theorem Ev.len3 {z : T3 α β γ} (B : Bt X.mg) (h : Ev X e σ G z) (hg : Gl X "len" := by rfl) (hs : starEach [e] X.env = (false, eval e X.env) :: starEach [] X.env := by rfl) (hpl : (backTo pos (starEach [] X.env)).any (·.1) = false := by rfl) : Ev X (.Call (.Name "len" p) [e] [] pos) σ G (3 : Int) :=
  Ev.b1 call_len boot_len' (fun G H v Q s r k => by
    obtain ⟨q, x, y, w, rfl, h1, _⟩ := r
    exact ⟨_, 3, rfl, .inr ⟨[x, y, w], SqT.of (s _ _ h1), rfl⟩, k _ _ _ (GrM.refl s) rfl⟩) B.len h hg (by decide) (by decide) hs hpl
/-- isinstance(e, T), T a built-in class -/
theorem Ev.isi [Ty α] {d : α} {x : Str} {n : String} {z : Bool} (B : Bt X.mg) (hx : X.mg x = none) (hv : bootBuiltins x = some (.type n)) (hk : kitB (Ty.t α) n = some z) (h : Ev X e σ G d) (hg : Gl X "isinstance" := by rfl) (hgx : Gl X x := by rfl) (hn : x ≠ "__name__" := by decide) (hdb : (x == ("__debug__" : Str)) = false := by decide)
    (hs : starEach [e, .Name x q] X.env = (false, eval e X.env) :: starEach [.Name x q] X.env := by rfl) (hs2 : starEach [.Name x q] X.env = (false, eval (.Name x q) X.env) :: starEach [] X.env := by rfl) (hpl : (backTo pos (starEach [.Name x q] X.env)).any (·.1) = false := by rfl) :
    Ev X (.Call (.Name "isinstance" p) [e, .Name x q] [] pos) σ G z := fun G1 H1 Q s1 s2 k =>
  WE.of (pe_callB call_isi hg B.isinstance boot_isinstance' (pa_cons pe_we (pa_cons (pe_bltn (v := .ty n) hgx hx hv rfl hn hdb) pa_nil hs2) hs) (by decide) (by decide) hs hpl) (h G1 H1 _ s1 s2 fun G2 H2 v g r => ⟨v, .ty n, .type (Ty.t α), .type n, z, rfl, .ty n, Ty.ok (rup g.s r), kit_ty hk, k G2 H2 _ g rfl⟩)
theorem Ev.isiStr {d : Str} (B : Bt X.mg) (h : Ev X e σ G d) (hg : Gl X "isinstance" := by rfl) (hgx : Gl X "str" := by rfl) (hs : starEach [e, .Name "str" q] X.env = (false, eval e X.env) :: starEach [.Name "str" q] X.env := by rfl) (hs2 : starEach [.Name "str" q] X.env = (false, eval (.Name "str" q) X.env) :: starEach [] X.env := by rfl) (hpl : (backTo pos (starEach [.Name "str" q] X.env)).any (·.1) = false := by rfl) :
    Ev X (.Call (.Name "isinstance" p) [e, .Name "str" q] [] pos) σ G true := Ev.isi (x := "str") B B.str boot_str' isi_str h hg hgx (by decide) (by decide) hs hs2 hpl
theorem Ev.isiList {d : List α} (B : Bt X.mg) (h : Ev X e σ G d) (hg : Gl X "isinstance" := by rfl) (hgx : Gl X "list" := by rfl) (hs : starEach [e, .Name "list" q] X.env = (false, eval e X.env) :: starEach [.Name "list" q] X.env := by rfl) (hs2 : starEach [.Name "list" q] X.env = (false, eval (.Name "list" q) X.env) :: starEach [] X.env := by rfl) (hpl : (backTo pos (starEach [.Name "list" q] X.env)).any (·.1) = false := by rfl) :
    Ev X (.Call (.Name "isinstance" p) [e, .Name "list" q] [] pos) σ G true := Ev.isi (x := "list") B B.list boot_list' isi_list h hg hgx (by decide) (by decide) hs hs2 hpl
theorem Ev.isiT3 {d : T3 α β γ} (B : Bt X.mg) (h : Ev X e σ G d) (hg : Gl X "isinstance" := by rfl) (hgx : Gl X "tuple" := by rfl) (hs : starEach [e, .Name "tuple" q] X.env = (false, eval e X.env) :: starEach [.Name "tuple" q] X.env := by rfl) (hs2 : starEach [.Name "tuple" q] X.env = (false, eval (.Name "tuple" q) X.env) :: starEach [] X.env := by rfl) (hpl : (backTo pos (starEach [.Name "tuple" q] X.env)).any (·.1) = false := by rfl) :
    Ev X (.Call (.Name "isinstance" p) [e, .Name "tuple" q] [] pos) σ G true := Ev.isi (x := "tuple") B B.tuple boot_tuple' isi_tuple h hg hgx (by decide) (by decide) hs hs2 hpl
theorem Ev.isiT2 {d : α × β} (B : Bt X.mg) (h : Ev X e σ G d) (hg : Gl X "isinstance" := by rfl) (hgx : Gl X "tuple" := by rfl) (hs : starEach [e, .Name "tuple" q] X.env = (false, eval e X.env) :: starEach [.Name "tuple" q] X.env := by rfl) (hs2 : starEach [.Name "tuple" q] X.env = (false, eval (.Name "tuple" q) X.env) :: starEach [] X.env := by rfl) (hpl : (backTo pos (starEach [.Name "tuple" q] X.env)).any (·.1) = false := by rfl) :
    Ev X (.Call (.Name "isinstance" p) [e, .Name "tuple" q] [] pos) σ G true := Ev.isi (x := "tuple") B B.tuple boot_tuple' isi_tuple h hg hgx (by decide) (by decide) hs hs2 hpl
/-- the texts of a list, as values -/
theorem strs_of : ∀ {H : Hp} {xs : List V} {l : List Str}, Paired (rp H) xs l → xs = l.map V.str
  | _, _, _, .nil => rfl
  | _, _, _, .cons r t => by rw [List.map_cons, ← strs_of t, show _ = V.str _ from r]
theorem strs_to {H : Hp} : ∀ l : List Str, Paired (rp H) (l.map V.str) l
  | [] => .nil
  | _ :: r => .cons rfl (strs_to r)
theorem ints_of : ∀ {H : Hp} {xs : List V} {l : List Int}, Paired (rp H) xs l → xs = l.map V.int
  | _, _, _, .nil => rfl
  | _, _, _, .cons r t => by rw [List.map_cons, ← ints_of t, show _ = V.int _ from r]
theorem ints_to {H : Hp} : ∀ l : List Int, Paired (rp H) (l.map V.int) l
  | [] => .nil
  | _ :: r => .cons rfl (ints_to r)
/-- sorted(xs), texts -/
theorem Ev.sortedS {l : List Str} (B : Bt X.mg) (h : Ev X e σ G l) (hl : l.length < 64) (hg : Gl X "sorted" := by rfl) (hs : starEach [e] X.env = (false, eval e X.env) :: starEach [] X.env := by rfl) (hpl : (backTo pos (starEach [] X.env)).any (·.1) = false := by rfl) : Ev X (.Call (.Name "sorted" p) [e] [] pos) σ G (sortS l) :=
  Ev.b1 cr_sortedS boot_sorted' (fun G H v Q s r k => by
    obtain ⟨q, xs, rfl, h1, pr⟩ := r
    have e1 := strs_of pr
    subst e1
    refine ⟨q, l, rfl, SqL.of (s _ _ h1), hl, fun ys p' pm so hp => ?_⟩
    have e2 : ys = sortS l := (sortS_eq pm (sortedS_pw so)).symm
    subst e2
    have g := Gr.new (o := .lst ((sortS l).map V.str)) s hp
    exact k _ _ _ g ⟨p', _, rfl, upd_same, strs_to _⟩) B.sorted h hg (by decide) (by decide) hs hpl
/-- list(xs) -/
theorem Ev.listOf {l : List α} (B : Bt X.mg) (h : Ev X e σ G l) (hg : Gl X "list" := by rfl) (hs : starEach [e] X.env = (false, eval e X.env) :: starEach [] X.env := by rfl) (hpl : (backTo pos (starEach [] X.env)).any (·.1) = false := by rfl) : Ev X (.Call (.Name "list" p) [e] [] pos) σ G l :=
  Ev.t1 call_list_of boot_list' (fun G H v Q s r k => by
    obtain ⟨q, xs, rfl, h1, pr⟩ := r
    refine ⟨q, xs, rfl, .inl (SqL.of (s _ _ h1)), fun p' hp => ?_⟩
    have g := Gr.new (o := .lst xs) s hp
    exact k _ _ _ g ⟨p', _, rfl, upd_same, pmono pr fun _ _ => rup g.g⟩) B.list h hg (by decide) (by decide) hs hpl
/-- sum(xs), ints -/
theorem Ev.sumI {l : List Int} (B : Bt X.mg) (h : Ev X e σ G l) (hc : X.calm = true := by rfl) (hg : Gl X "sum" := by rfl) (hs : starEach [e] X.env = (false, eval e X.env) :: starEach [] X.env := by rfl) (hpl : (backTo pos (starEach [] X.env)).any (·.1) = false := by rfl) : Ev X (.Call (.Name "sum" p) [e] [] pos) σ G l.sum :=
  Ev.b1 (cr_sum hc) boot_sum' (fun G H v Q s r k => by
    obtain ⟨q, xs, rfl, h1, pr⟩ := r
    have e1 := ints_of pr
    subst e1
    exact ⟨q, l, rfl, SqL.of (s _ _ h1), k _ _ _ (GrM.refl s) rfl⟩) B.sum h hg (by decide) (by decide) hs hpl
/-- max(a, b), min(a, b) -/
theorem Ev.max2 {i j : Int} (B : Bt X.mg) (h : Ev X a σ G i) (h2 : Ev X b σ G j) (hc : X.calm = true := by rfl) (hg : Gl X "max" := by rfl) (hs : starEach [a, b] X.env = (false, eval a X.env) :: starEach [b] X.env := by rfl) (hs2 : starEach [b] X.env = (false, eval b X.env) :: starEach [] X.env := by rfl) (hpl : (backTo pos (starEach [b] X.env)).any (·.1) = false := by rfl) :
    Ev X (.Call (.Name "max" p) [a, b] [] pos) σ G (if j > i then j else i) := fun G1 H1 Q s1 s2 k =>
  WE.of (pe_callB (call_max2 hc) hg B.max boot_max' (pa_cons pe_we (pa_cons pe_we pa_nil hs2) hs) (by decide) (by decide) hs hpl) (h G1 H1 _ s1 s2 fun G2 H2 v g r => h2 G2 H2 _ (s1.trans g.g) g.s fun G3 H3 u g2 r2 => by
    cases r; cases r2; exact ⟨i, j, rfl, k _ _ _ (g.trans g2) rfl⟩)
theorem Ev.min2 {i j : Int} (B : Bt X.mg) (h : Ev X a σ G i) (h2 : Ev X b σ G j) (hc : X.calm = true := by rfl) (hg : Gl X "min" := by rfl) (hs : starEach [a, b] X.env = (false, eval a X.env) :: starEach [b] X.env := by rfl) (hs2 : starEach [b] X.env = (false, eval b X.env) :: starEach [] X.env := by rfl) (hpl : (backTo pos (starEach [b] X.env)).any (·.1) = false := by rfl) :
    Ev X (.Call (.Name "min" p) [a, b] [] pos) σ G (if j < i then j else i) := fun G1 H1 Q s1 s2 k =>
  WE.of (pe_callB (call_min2 hc) hg B.min boot_min' (pa_cons pe_we (pa_cons pe_we pa_nil hs2) hs) (by decide) (by decide) hs hpl) (h G1 H1 _ s1 s2 fun G2 H2 v g r => h2 G2 H2 _ (s1.trans g.g) g.s fun G3 H3 u g2 r2 => by
    cases r; cases r2; exact ⟨i, j, rfl, k _ _ _ (g.trans g2) rfl⟩)
/-- len(set(xs)), texts -/
def tLenSetN (K : PySem.W.Frag) (ta : TE) : TE := fun σ H Q => ta σ H fun x H1 => ∃ (l : Addr) (xs : List Str), x = .ref l ∧ SqL K H1 l (xs.map V.str) ∧ xs.length + 1 < scanBound ∧ Q (.int ((dds xs).length : Nat)) H1
theorem pe_lenSetN {ta : TE} (hc : X.calm = true) (hg : Gl X "len") (hm : X.mg "len" = none) (hg2 : Gl X "set") (hm2 : X.mg "set" = none) (ha : PE X a ta) (na : starEach [a] X.env = (false, eval a X.env) :: starEach [] X.env := by rfl) :
    PE X (.Call (.Name "len" p) [.Call (.Name "set" q) [a] [] tpos] [] pos) (tLenSetN X.K ta) := by
  refine ⟨fun pins s σ H Q I h => PyProof.Rows.Call_ (ld_blt I hg hm boot_len' (PyProof.Rows.callWith_builtin1 (PyProof.Rows.args_cons (PyProof.Rows.Call_ (ld_blt I hg2 hm2 boot_set' ?_)) rfl) rfl rfl))⟩
  refine PyProof.Rows.callWith_type1 (PyProof.Rows.args_cons (thn (ha.run pins s σ H _ I h) fun v s1 ⟨x, H1, I1, r1, q1⟩ => PyProof.Rows.args_nil ?_) na) na rfl
  obtain ⟨l, xs, rfl, hq, hb, q1⟩ := q1
  cases r1
  obtain ⟨its, r, pl, hz⟩ := I1.list hq
  refine call_setStrs xs (I1.ok.hd hc) pl.isList (by simpa using strsAre_of r) hb fun h' tk hS hk => PyProof.Rows.args_nil ?_
  obtain ⟨o, es, ep, t, ho, hex, hd, _, _, _, hf, hn⟩ := hS
  have I2 : Inv X pins σ H1 { s1 with heap := h', toks := tk } := I1.kept fun b o e => hk b o (Heap.lt_size e) e
  have hlt : ((es.size : Nat) : Int) < 2 ^ 63 := by
    have h1 := dds_len xs
    unfold scanBound at hb
    rw [hn]
    have : ((dds xs).length : Int) < 4096 := by omega
    exact Int.lt_trans this (by decide)
  exact call_len_set ho hex hd hf hlt ⟨.int ((dds xs).length : Nat), H1, I2.tok _, ⟨_, by rw [hn]⟩, q1⟩
theorem Ev.lenSet {l : List Str} {tpos : Pos} (B : Bt X.mg) (h : Ev X a σ G l) (hb : l.length < 4000) (hc : X.calm = true := by rfl) (hg : Gl X "len" := by rfl) (hg2 : Gl X "set" := by rfl) (na : starEach [a] X.env = (false, eval a X.env) :: starEach [] X.env := by rfl) :
    Ev X (.Call (.Name "len" p) [.Call (.Name "set" q) [a] [] tpos] [] pos) σ G (((dds l).length : Nat) : Int) := fun G1 H1 Q s1 s2 k =>
  WE.of (pe_lenSetN hc hg B.len hg2 B.set pe_we na) (h G1 H1 _ s1 s2 fun G2 H2 v g r => by
    obtain ⟨q, xs, rfl, h1, pr⟩ := r
    have e1 := strs_of pr
    subst e1
    exact ⟨q, l, rfl, SqL.of (g.s _ _ h1), by unfold scanBound; omega, k _ _ _ g rfl⟩)

/-! ### subscripts -/
theorem Ev.ixL {l : List α} {i : Int} {d : α} (ha : Ev X a σ G l) (hb : Ev X b σ G i) (h : atI l i = some d) (hs : PlainIx b := by exact fun _ _ => rfl) : Ev X (.Subscript a b pos) σ G d := fun G1 H1 Q s1 s2 k =>
  WE.of (pe_ix ix_list pe_we pe_we hs) (ha G1 H1 _ s1 s2 fun G2 H2 v g r => hb G2 H2 _ (s1.trans g.g) g.s fun G3 H3 u g2 r2 => by
    obtain ⟨q, xs, rfl, h1, pr⟩ := rup g2.g r
    cases r2
    unfold atI at h
    rw [← pr.length] at h
    cases hi : ixN xs.length i with
    | none => rw [hi] at h; cases h
    | some j =>
      rw [hi] at h
      have hj : j < xs.length := (ixN_seq hi).2.1
      obtain ⟨d2, e1, e2⟩ := paired_at pr (List.getElem?_eq_getElem hj)
      have e3 : d2 = d := Option.some.inj (e1.symm.trans h)
      subst e3
      exact ⟨q, xs, i, xs[j], rfl, rfl, SqL.of (g2.s _ _ h1), by unfold atI; rw [hi]; exact List.getElem?_eq_getElem hj, k _ _ _ (g.trans g2) e2⟩)
theorem Ev.ix30 {t : T3 α β γ} {j ip} (ha : Ev X a σ G t) : Ev X (.Subscript a (.Constant (.int 0) j ip) pos) σ G t.a := fun G1 H1 Q s1 s2 k =>
  WE.of (pe_ix ix_tup pe_we pe_int (fun _ _ => rfl)) (ha G1 H1 _ s1 s2 fun G2 H2 v g r => by
    obtain ⟨q, x, y, z, rfl, h1, r1, r2, r3⟩ := r
    exact ⟨q, [x, y, z], 0, x, rfl, rfl, SqT.of (g.s _ _ h1), rfl, k _ _ _ g r1⟩)
theorem Ev.ix31 {t : T3 α β γ} {j ip} (ha : Ev X a σ G t) : Ev X (.Subscript a (.Constant (.int 1) j ip) pos) σ G t.b := fun G1 H1 Q s1 s2 k =>
  WE.of (pe_ix ix_tup pe_we pe_int (fun _ _ => rfl)) (ha G1 H1 _ s1 s2 fun G2 H2 v g r => by
    obtain ⟨q, x, y, z, rfl, h1, r1, r2, r3⟩ := r
    exact ⟨q, [x, y, z], 1, y, rfl, rfl, SqT.of (g.s _ _ h1), rfl, k _ _ _ g r2⟩)
theorem Ev.ix32 {t : T3 α β γ} {j ip} (ha : Ev X a σ G t) : Ev X (.Subscript a (.Constant (.int 2) j ip) pos) σ G t.c := fun G1 H1 Q s1 s2 k =>
  WE.of (pe_ix ix_tup pe_we pe_int (fun _ _ => rfl)) (ha G1 H1 _ s1 s2 fun G2 H2 v g r => by
    obtain ⟨q, x, y, z, rfl, h1, r1, r2, r3⟩ := r
    exact ⟨q, [x, y, z], 2, z, rfl, rfl, SqT.of (g.s _ _ h1), rfl, k _ _ _ g r3⟩)
/-- a part of a slice -/
def EO (X : Cx) (e : Option Expr) (σ : St) (G : Hp) (o : Option Int) : Prop := ∀ G1 H1 (Q : Option Int → Hp → Prop), Same G G1 → Same G1 H1 → (∀ G2 H2, Gr G1 H1 G2 H2 → Q o H2) → ∃ t, PO X e t ∧ t σ H1 Q
theorem EO.no : EO X none σ G none := fun G1 H1 Q s1 s2 k => ⟨_, po_none, k G1 H1 (GrM.refl s2)⟩
/-- xs[:b], xs[a:], xs[a:b] of a list -/
theorem cutV_pair {F : V → α → Prop} {xs : List V} {l : List α} (pr : Paired F xs l) (n m : Nat) : Paired F ((xs.drop n).take m) ((l.drop n).take m) := by
  have hd : ∀ (n : Nat) {xs : List V} {l : List α}, Paired F xs l → Paired F (xs.drop n) (l.drop n) := by
    intro n
    induction n with
    | zero => intro xs l h; simpa using h
    | succ n ih =>
      intro xs l h
      cases h with
      | nil => simp; exact .nil
      | cons r t => simpa using ih t
  have ht : ∀ (m : Nat) {xs : List V} {l : List α}, Paired F xs l → Paired F (xs.take m) (l.take m) := by
    intro m
    induction m with
    | zero => intro xs l h; simp; exact .nil
    | succ n ih =>
      intro xs l h
      cases h with
      | nil => simp; exact .nil
      | cons r t => simpa using .cons r (ih t)
  exact ht m (hd n pr)
def cutL (l : List α) (lo hi : Option Int) : List α := (l.drop (HT.sIx l.length 0 lo)).take (HT.sIx l.length l.length hi - HT.sIx l.length 0 lo)
theorem rSl_data {l : List α} {lo hi : Option Int} {H : Hp} {v : V} {Q : VK} (s : Same G H) (r : rp G v l) (k : ∀ G2 H2 w, Gr G H G2 H2 → rp G2 w (cutL l lo hi) → Q w H2) : rSlL X.K v lo hi H Q := by
  obtain ⟨q, xs, rfl, h1, pr⟩ := r
  refine ⟨q, xs, rfl, SqL.of (s _ _ h1), fun p hp => ?_⟩
  have g := Gr.new (o := .lst (cutV xs lo hi)) s hp
  have hh : ∀ H', Paired (rp H') xs l → Paired (rp H') (cutV xs lo hi) (cutL l lo hi) := fun H' pr => by
    unfold cutV cutL
    rw [pr.length]
    exact cutV_pair pr _ _
  exact k _ _ _ g ⟨p, _, rfl, upd_same, hh _ (pmono pr fun _ _ => rup g.g)⟩
theorem Ev.slTo {l : List α} {i : Int} {p2 : Pos} (ha : Ev X a σ G l) (hb : Ev X b σ G i) : Ev X (.Subscript a (.Slice none (some b) none p2) pos) σ G (cutL l none (some i)) := fun G1 H1 Q s1 s2 k =>
  WE.of (pe_slice sl_list pe_we po_none (po_some pe_we)) (ha G1 H1 _ s1 s2 fun G2 H2 v g r => hb G2 H2 _ (s1.trans g.g) g.s fun G3 H3 u g2 r2 => ⟨i, r2, rSl_data g2.s (rup g2.g r) fun G4 H4 w g3 r3 => k _ _ _ ((g.trans g2).trans g3) r3⟩)
theorem Ev.slFrom {l : List α} {i : Int} {p2 : Pos} (ha : Ev X a σ G l) (hb : Ev X b σ G i) : Ev X (.Subscript a (.Slice (some b) none none p2) pos) σ G (cutL l (some i) none) := fun G1 H1 Q s1 s2 k =>
  WE.of (pe_slice sl_list pe_we (po_some pe_we) po_none) (ha G1 H1 _ s1 s2 fun G2 H2 v g r => hb G2 H2 _ (s1.trans g.g) g.s fun G3 H3 u g2 r2 => ⟨i, r2, rSl_data g2.s (rup g2.g r) fun G4 H4 w g3 r3 => k _ _ _ ((g.trans g2).trans g3) r3⟩)
theorem cutL_to {l : List α} {n : Nat} : cutL l none (some (n : Int)) = l.take n := by
  unfold cutL
  rw [HT.sIx_none, HT.sIx_nat, List.drop_zero, Nat.sub_zero]
  by_cases h : n ≤ l.length
  · rw [Nat.min_eq_left h]
  · rw [Nat.min_eq_right (by omega), List.take_of_length_le (Nat.le_refl _), List.take_of_length_le (by omega)]
theorem cutL_from {l : List α} {n : Nat} : cutL l (some (n : Int)) none = l.drop n := by
  unfold cutL
  rw [HT.sIx_none, HT.sIx_nat]
  by_cases h : n ≤ l.length
  · rw [Nat.min_eq_left h, List.take_of_length_le (by simp)]
  · rw [Nat.min_eq_right (by omega)]
    simp
    omega
/-! ### texts -/
theorem Ev.join {z : Str} {l : List Str} {apos : Pos} (ha : Ev X a σ G z) (hb : Ev X b σ G l) (hz : (l.map (·.length)).sum + l.length * z.length ≤ 16777216) (hs : starEach [b] X.env = [(false, eval b X.env)] := by rfl) (hbase : attributeBase a "join" X.env (eval a X.env) = eval a X.env := by rfl) (hline : (apos.endLine == pos.line) = true := by rfl) :
    Ev X (.Call (.Attribute a "join" apos) [b] [] pos) σ G (Txt.join z l) := fun G1 H1 Q s1 s2 k =>
  WE.of (pe_join pe_we pe_we hs hbase hline) (ha G1 H1 _ s1 s2 fun G2 H2 v g r => by
    cases r
    refine ⟨⟨z, rfl⟩, hb G2 H2 _ (s1.trans g.g) g.s fun G3 H3 u g2 r2 => ?_⟩
    obtain ⟨q, xs, rfl, h1, pr⟩ := r2
    have e1 := strs_of pr
    subst e1
    exact ⟨z, q, l, rfl, rfl, .inl (SqL.of (g2.s _ _ h1)), hz, k _ _ _ (g.trans g2) rfl⟩)
theorem Ev.split {z y : Str} {apos : Pos} (ha : Ev X a σ G z) (hb : Ev X b σ G y) (hy : (y.length == 0) = false) (hz : z.length + 2 ≤ sizeLine) (hs : starEach [b] X.env = [(false, eval b X.env)] := by rfl) (hbase : attributeBase a "split" X.env (eval a X.env) = eval a X.env := by rfl) (hline : (apos.endLine == pos.line) = true := by rfl) :
    Ev X (.Call (.Attribute a "split" apos) [b] [] pos) σ G (Txt.split z y) := fun G1 H1 Q s1 s2 k =>
  WE.of (pe_split pe_we pe_we hs hbase hline) (ha G1 H1 _ s1 s2 fun G2 H2 v g r => by
    cases r
    refine ⟨⟨z, rfl⟩, hb G2 H2 _ (s1.trans g.g) g.s fun G3 H3 u g2 r2 => ?_⟩
    cases r2
    refine ⟨z, y, rfl, rfl, hy, hz, fun p hp => ?_⟩
    have g3 := Gr.new (o := .lst ((Txt.split z y).map V.str)) g2.s hp
    exact k _ _ _ ((g.trans g2).trans g3) ⟨p, _, rfl, upd_same, strs_to _⟩)
theorem Ev.partition {z y : Str} {apos : Pos} (ha : Ev X a σ G z) (hb : Ev X b σ G y) (hy : (y.length == 0) = false) (hz : z.length ≤ sizeLine) (hs : starEach [b] X.env = [(false, eval b X.env)] := by rfl) (hbase : attributeBase a "partition" X.env (eval a X.env) = eval a X.env := by rfl) (hline : (apos.endLine == pos.line) = true := by rfl) :
    Ev X (.Call (.Attribute a "partition" apos) [b] [] pos) σ G (T3.mk (Txt.partition z y).1 (Txt.partition z y).2.1 (Txt.partition z y).2.2) := fun G1 H1 Q s1 s2 k =>
  WE.of (pe_partition pe_we pe_we hs hbase hline) (ha G1 H1 _ s1 s2 fun G2 H2 v g r => by
    cases r
    refine ⟨⟨z, rfl⟩, hb G2 H2 _ (s1.trans g.g) g.s fun G3 H3 u g2 r2 => ?_⟩
    cases r2
    refine ⟨z, y, rfl, rfl, hy, hz, fun p hp => ?_⟩
    have g3 := Gr.new (o := .tup [.str (Txt.partition z y).1, .str (Txt.partition z y).2.1, .str (Txt.partition z y).2.2]) g2.s hp
    exact k _ _ _ ((g.trans g2).trans g3) ⟨p, _, _, _, rfl, upd_same, rfl, rfl, rfl⟩)
end
end D1

namespace D1
open PySem L2 Rp
theorem _root_.L2.Room.units65 {k : Nat} {A : Around} (r : Room k A) : A.units + 65 < cLine := by have := r.un; omega
theorem filter_yes {α : Type} (l : List α) : l.filter (fun _ => true) = l := by induction l with
  | nil => rfl
  | cons a r ih => simp
theorem wipe_b1 {γ : Type} [Rp γ] {σ : St} {i : Nat} {c : γ} {G : Hp} {σ' : St} (h : B1 i c G (wipe σ [i]) σ') : wipe σ' [i] = wipe σ [i] := by
  obtain ⟨v, _, rfl⟩ := h
  show ((σ.set i none).set i (some v)).set i none = σ.set i none
  rw [List.set_set, List.set_set]
theorem wipe_b2 {α β : Type} [Rp α] [Rp β] {σ : St} {i j : Nat} (hij : i ≠ j) {c : α × β} {G : Hp} {σ' : St} (h : B2 i j c G (wipe σ [i, j]) σ') : wipe σ' [i, j] = wipe σ [i, j] := by
  obtain ⟨u, w, _, _, rfl⟩ := h
  show (((((σ.set j none).set i none).set i (some u)).set j (some w)).set j none).set i none = (σ.set j none).set i none
  simp only [List.set_set]
  rw [List.set_comm _ _ hij, List.set_set, List.set_set]
section
variable {α β γ δ : Type} [Rp α] [Rp β] [Rp γ] [Rp δ] {X : Cx} {σ : St} {G : Hp} {pos px : Pos} {elt iter c : Expr} {scope : Scope} {rest : List Stmt} {N : St → Hp → Prop} {R : V → Hp → Prop}
/-- [elt for x in iter if c] -/
theorem Ev.lcIf (i : Nat) {x : Str} {l : List γ} {f : γ → δ} {t : γ → Bool} (hi : EI X (.Name x px) iter σ G l)
    (ht : ∀ d ∈ l, ∀ G' v, Same G G' → rp G' v d → ∀ s H C cl fp, ET (BK X s H scope C cl fp) c ((wipe σ [i]).set i (some v)) G' (t d))
    (he : ∀ d ∈ l, t d = true → ∀ G' v, Same G G' → rp G' v d → ∀ s H C cl fp, Ev (BK X s H scope C cl fp) elt ((wipe σ [i]).set i (some v)) G' (f d))
    (hz : l.length < sizeLine) (hN : X.N.Nodup) (ok : BlkOk X.N X.env.scope scope [(x, i)]) (hx : X.N[i]? = some x := by rfl) (lx : Loc (relS scope X.env.scope) x := by first | exact Or.inl rfl | exact Or.inr rfl)
    (fx : (scope.names.lookup x == some .cell) = true ∨ (relS scope X.env.scope).names.lookup x = some .local := by first | exact .inr rfl | exact .inl rfl) (hc : X.calm = true := by rfl) (hs : ∀ y, foldedSetIterable iter X.env y = pure y := by intro _; rfl) :
    Ev X (.ListComp elt [⟨.Name x px, iter, [c], 0⟩] scope pos) σ G ((l.filter t).map f) :=
  Ev.lc (own := [(x, i)]) hi tgB1 (fun _ _ _ _ _ => pg_name hN hx lx fx) (fun d hd G' σ' s1 ⟨v, r, e⟩ s H C cl fp => e ▸ ETs.one (ht d hd G' v s1 r s H C cl fp)) (fun d hd td G' σ' s1 ⟨v, r, e⟩ s H C cl fp => e ▸ he d hd td G' v s1 r s H C cl fp) (fun _ _ _ b => wipe_b1 b) hz hN ok hc hs
/-- [x for x in iter if c] -/
theorem Ev.lcSel (i : Nat) {x : Str} {px2 : Pos} {l : List γ} {t : γ → Bool} (hi : EI X (.Name x px) iter σ G l)
    (ht : ∀ d ∈ l, ∀ G' v, Same G G' → rp G' v d → ∀ s H C cl fp, ET (BK X s H scope C cl fp) c ((wipe σ [i]).set i (some v)) G' (t d))
    (hz : l.length < sizeLine) (hN : X.N.Nodup) (ok : BlkOk X.N X.env.scope scope [(x, i)]) (hσ : i < σ.length := by exact Nat.le_of_ble_eq_true rfl) (hx : X.N[i]? = some x := by rfl) (lx : Loc (relS scope X.env.scope) x := by first | exact Or.inl rfl | exact Or.inr rfl)
    (fx : (scope.names.lookup x == some .cell) = true ∨ (relS scope X.env.scope).names.lookup x = some .local := by first | exact .inr rfl | exact .inl rfl) (vx : Vis (relS scope X.env.scope) x := by first | exact Or.inl rfl | exact Or.inr (Or.inl rfl) | exact Or.inr (Or.inr rfl)) (hd : (x == ("__debug__" : Str)) = false := by decide) (hcd : (x == ("__classdict__" : Str)) = false := by decide)
    (hc : X.calm = true := by rfl) (hs : ∀ y, foldedSetIterable iter X.env y = pure y := by intro _; rfl) :
    Ev X (.ListComp (.Name x px2) [⟨.Name x px, iter, [c], 0⟩] scope pos) σ G (l.filter t) := by
  have h := Ev.lcIf (pos := pos) (elt := .Name x px2) (f := fun d => d) i hi ht (fun d _ _ G' v s1 r s H C cl fp => Ev.v i (by rw [List.getElem?_set_self (by rw [wipe_length]; exact hσ)]) r hx vx hd hcd) hz hN ok hx lx fx hc hs
  rwa [List.map_id'] at h
/-- [elt for x in iter] -/
theorem Ev.lcMap (i : Nat) {x : Str} {l : List γ} {f : γ → δ} (hi : EI X (.Name x px) iter σ G l)
    (he : ∀ d ∈ l, ∀ G' v, Same G G' → rp G' v d → ∀ s H C cl fp, Ev (BK X s H scope C cl fp) elt ((wipe σ [i]).set i (some v)) G' (f d))
    (hz : l.length < sizeLine) (hN : X.N.Nodup) (ok : BlkOk X.N X.env.scope scope [(x, i)]) (hx : X.N[i]? = some x := by rfl) (lx : Loc (relS scope X.env.scope) x := by first | exact Or.inl rfl | exact Or.inr rfl)
    (fx : (scope.names.lookup x == some .cell) = true ∨ (relS scope X.env.scope).names.lookup x = some .local := by first | exact .inr rfl | exact .inl rfl) (hc : X.calm = true := by rfl) (hs : ∀ y, foldedSetIterable iter X.env y = pure y := by intro _; rfl) :
    Ev X (.ListComp elt [⟨.Name x px, iter, [], 0⟩] scope pos) σ G (l.map f) := by
  have h := Ev.lc (pos := pos) (own := [(x, i)]) (f := f) (t := fun _ => true) hi tgB1 (fun _ _ _ _ _ => pg_name hN hx lx fx) (fun d hd G' σ' s1 _ s H C cl fp => ETs.nil) (fun d hd td G' σ' s1 ⟨v, r, e⟩ s H C cl fp => e ▸ he d hd G' v s1 r s H C cl fp) (fun _ _ _ b => wipe_b1 b) hz hN ok hc hs
  rwa [filter_yes] at h
/-- [elt for x, y in iter] -/
theorem Ev.lcMap2 (i j : Nat) {x y : Str} {py pt : Pos} {kt} {l : List (α × β)} {f : α × β → δ} (hi : EI X (.Tuple [.Name x px, .Name y py] kt pt) iter σ G l)
    (he : ∀ d ∈ l, ∀ G' u w, Same G G' → rp G' u d.1 → rp G' w d.2 → ∀ s H C cl fp, Ev (BK X s H scope C cl fp) elt (((wipe σ [i, j]).set i (some u)).set j (some w)) G' (f d))
    (hz : l.length < sizeLine) (hN : X.N.Nodup) (ok : BlkOk X.N X.env.scope scope [(x, i), (y, j)]) (hij : i ≠ j := by decide) (hx : X.N[i]? = some x := by rfl) (hy : X.N[j]? = some y := by rfl) (lx : Loc (relS scope X.env.scope) x := by first | exact Or.inl rfl | exact Or.inr rfl) (ly : Loc (relS scope X.env.scope) y := by first | exact Or.inl rfl | exact Or.inr rfl)
    (fx : (scope.names.lookup x == some .cell) = true ∨ (relS scope X.env.scope).names.lookup x = some .local := by first | exact .inr rfl | exact .inl rfl) (fy : (scope.names.lookup y == some .cell) = true ∨ (relS scope X.env.scope).names.lookup y = some .local := by first | exact .inr rfl | exact .inl rfl)
    (hg : ∀ (s : Shared) (H : Hp) (C : Addr) (cl : List (Str × Addr)) (fp : List Addr), PG (BK X s H scope C cl fp) (.Tuple [.Name x px, .Name y py] kt pt) (gTup X.K 2 (gCons (gName i) (gCons (gName j) gNil))))
    (hc : X.calm = true := by rfl) (hs : ∀ y, foldedSetIterable iter X.env y = pure y := by intro _; rfl) :
    Ev X (.ListComp elt [⟨.Tuple [.Name x px, .Name y py] kt pt, iter, [], 0⟩] scope pos) σ G (l.map f) := by
  have h := Ev.lc (pos := pos) (own := [(x, i), (y, j)]) (f := f) (t := fun _ => true) hi (tgB2 (K := X.K)) hg (fun d hd G' σ' s1 _ s H C cl fp => ETs.nil) (fun d hd td G' σ' s1 ⟨u, w, r1, r2, e⟩ s H C cl fp => e ▸ he d hd G' u w s1 r1 r2 s H C cl fp) (fun _ _ _ b => wipe_b2 hij b) hz hN ok hc hs
  rwa [filter_yes] at h
end
end D1

namespace D1
open PySem L2 Rp

/-- a value tells its data -/
class Ri (α : Type) [Rp α] where
  inj : ∀ {H : Hp} {v : V} {a b : α}, rp H v a → rp H v b → a = b
instance : Ri Int := ⟨fun h1 h2 => by cases h1; cases h2; rfl⟩
instance : Ri Bool := ⟨fun h1 h2 => by cases h1; cases h2; rfl⟩
instance : Ri Str := ⟨fun h1 h2 => by cases h1; cases h2; rfl⟩
theorem ri_all {α : Type} [Rp α] [Ri α] {H : Hp} : ∀ {xs : List V} {as bs : List α}, Paired (rp H) xs as → Paired (rp H) xs bs → as = bs
  | _, _, _, .nil, .nil => rfl
  | _, _, _, .cons r t, .cons r' t' => by rw [Ri.inj r r', ri_all t t']
instance {α : Type} [Rp α] [Ri α] : Ri (List α) := ⟨fun ⟨p, xs, e, h, q⟩ ⟨p', xs', e', h', q'⟩ => by
  subst e; cases e'; rw [h] at h'; cases h'; exact ri_all q q'⟩
instance {α β : Type} [Rp α] [Rp β] [Ri α] [Ri β] : Ri (α × β) := ⟨fun ⟨p, x, y, e, h, q, r⟩ ⟨p', x', y', e', h', q', r'⟩ => by
  subst e; cases e'; rw [h] at h'; cases h'; exact Prod.ext (Ri.inj q q') (Ri.inj r r')⟩
instance {α β γ : Type} [Rp α] [Rp β] [Rp γ] [Ri α] [Ri β] [Ri γ] : Ri (T3 α β γ) := ⟨fun {H v a b} ⟨p, x, y, z, e, h, q, r, u⟩ ⟨p', x', y', z', e', h', q', r', u'⟩ => by
  subst e; cases e'; rw [h] at h'; cases h'
  obtain ⟨a1, a2, a3⟩ := a
  obtain ⟨b1, b2, b3⟩ := b
  have e1 : a1 = b1 := Ri.inj q q'
  have e2 : a2 = b2 := Ri.inj r r'
  have e3 : a3 = b3 := Ri.inj u u'
  rw [e1, e2, e3]⟩

/-- the data is an instance of the class at C -/
class In1 (α : Type) [Rp α] (C : outParam Addr) where
  ins : ∀ {H : Hp} {v : V} {a : α}, rp H v a → ∃ p dx fs, v = .ref p ∧ H p = some (.ins C dx fs)

/-- a class with its own == and no != -/
structure OEq (K : PySem.W.Frag) (C f : Addr) : Prop where
  eq : PySem.W.findIn K (.ref C) "__eq__" = some (some (.ref f))
  fn : PySem.W.isFn K (.ref f) = true
  cls : ∃ (nm q : Str) (N : Addr) (bs : List Value) (hdct : Bool) (sn : List Str) (sub : List Value) (ab : Bool) (col : Option Bool) (dd : Option Addr) (k0 k1 k2 k3 k5 : Option Value) (nid : String),
    K.lookup C = some (excClassObj nm q C N bs [.type "object"] hdct sn sub ab col dd k0 k1 k2 k3 k5 nid) ∧ PySem.W.nsOkIn K N = true ∧ PySem.W.nsIn K N "__eq__" = some (some (.ref f)) ∧ PySem.W.nsIn K N "__ne__" = some none
  fo : ∃ o, K.lookup f = some o ∧ o.cls = .type "function"
theorem ns_some {K : PySem.W.Frag} {h : Heap} {N : Addr} {m : Str → Option Value} {n : Str} {v : Value} (X : K.In h) (G : h.Ns N m) (e : PySem.W.nsIn K N n = some (some v)) : m n = some v := by
  obtain ⟨o, es, ep, ho, hd, _, hf⟩ := G
  unfold PySem.W.nsIn at e
  split at e
  case h_2 => cases e
  rename_i q
  have e2 := X _ _ q
  rw [ho] at e2
  cases e2
  cases hd
  split at e
  · rename_i en he
    cases e
    rw [← hf]
    unfold nsFind findBy
    rw [← Array.find?_toList, he]
    rfl
  · split at e <;> cases e
theorem OEq.raw {K : PySem.W.Frag} {C f x : Addr} {h : Heap} {ox : Obj} (E : OEq K C f) (X : K.In h) (hx : h.get? x = some ox) (hc : ox.cls = .ref C) : h.OwnEqNoNe x C f "object" [.type "object"] := by
  obtain ⟨nm, q, N, bs, hdct, sn, sub, ab, col, dd, k0, k1, k2, k3, k5, nid, lk, ok, e1, e2⟩ := E.cls
  obtain ⟨of, hf, hfc⟩ := E.fo
  have G : h.Ns N (h.nsMap N) := .of_isNs (PySem.W.isNs_of_in X ok)
  exact ⟨ox, of, nm, q, N, bs, hdct, sn, sub, ab, col, dd, k0, k1, k2, k3, k5, nid, h.nsMap N, _, hx, hc, X _ _ lk, G, ns_some X G e1, X _ _ hf, hfc, PySem.F.cmp_object.mro, PySem.F.cmp_object.eq.lookup, PySem.W.nsMap_none_of_in X ok e2⟩

/-- the own ==, somewhere below the running body -/
structure EqOk (X : Cx) (n : Nat) (C : Addr) {α : Type} [Rp α] [DecidableEq α] (pre : α → Prop) : Prop where
  run : ∀ (A : Around) (pins : List (Addr × Obj)) (s : Shared) (σ : St) (G H : Hp) (p q : Addr) (a b : α), Sub X n A → Inv X pins σ H s → Same G H → rp G (.ref p) a → rp G (.ref q) b → pre a → pre b →
    ∃ f, OEq X.K C f ∧ wpAny (model X.prog X.w) A (call (.ref f) [.ref p, .ref q]) (fun r s' => r = .bool (decide (a = b)) ∧ ∃ G' H', Inv X pins σ H' s' ∧ Gr G H G' H') X.xe s
section
variable {X : Cx} {n k : Nat} {C : Addr} {α : Type} [Rp α] [DecidableEq α] [In1 α C] {pre : α → Prop}
theorem EqOk.of {f : Addr} {fd : FuncData} {ps : List Str} (E : OEq X.K C f) (F : FnOk X.prog X.w X.K X.mg X.base C8.CX0 n f fd ps (P2 (fun a b => pre a ∧ pre b) (fun a b : α => decide (a = b)))) (hb : Binds X.K fd ps []) : EqOk X n C pre := by
  refine ⟨fun A pins s σ G H p q a b sb I sG r1 r2 p1 p2 => ⟨f, E, ?_⟩⟩
  have e0 : Env0 X.prog X.w X.K X.mg X.base A X.stack s H := by
    have e := I.env0
    exact ⟨by rw [sb.fr]; exact e.frames, e.mod, e.bs, e.bsz, e.funs, e.frf, e.hok, e.bare⟩
  have hsp : P2 (fun a b => pre a ∧ pre b) (fun a b : α => decide (a = b)) [.ref p, .ref q] H (fun v H' => v = .bl (decide (a = b)) ∧ ∃ G', Gr G H G' H') (fun _ _ _ => False) :=
    ⟨G, _, _, a, b, rfl, sG, r1, r2, ⟨p1, p2⟩, fun G' H' w g r => ⟨r, G', g⟩⟩
  have hl := F.len _ _ _ _ hsp
  have rv : Vals [V.ref p, V.ref q] [Value.ref p, Value.ref q] := .cons rfl (.cons rfl .nil)
  have bt := hb s [.ref p, .ref q] I.kIn (by simpa using hl)
  rw [List.append_nil] at bt
  refine wpAny_call (codeAny_mono (F.run A X.stack s H ⟨[.ref p, .ref q], []⟩ [.ref p, .ref q] [.ref p, .ref q] _ _ sb.room e0 bt rv hsp) fun r s' hq => ?_)
  match r, hq with
  | .error _, hq => exact hq.elim
  | .ok .next, hq => exact hq.elim
  | .ok .brk, hq => exact hq.elim
  | .ok .cont, hq => exact hq.elim
  | .ok (.ret u), hq =>
    obtain ⟨z, H', I', rz, ez, G', g⟩ := I.after hq
    subst ez
    cases rz
    exact ⟨rfl, G', H', I', g⟩
theorem inst_of {pins : List (Addr × Obj)} {σ : St} {H : Hp} {s : Shared} {p dx : Addr} {fs : List (Str × V)} (I : Inv X pins σ H s) (h : H p = some (.ins C dx fs)) : s.heap.get? p = some (PySem.W.instObj C dx) := by
  have x := I.hok p _ h
  obtain ⟨_, _, _, e, _⟩ := x
  exact e
theorem EqOk.rc (F : EqOk X n C pre) {A : Around} {pins : List (Addr × Obj)} {s : Shared} {σ : St} {G H : Hp} {u v : V} {x y : Value} {a b : α} (sb : Sub X n A) (I : Inv X pins σ H s) (sG : Same G H) (r1 : rp G u a) (r2 : rp G v b) (rx : RelV u x) (ry : RelV v y) (p1 : pre a) (p2 : pre b) :
    wpAny (model X.prog X.w) A (richCompare .Eq x y) (fun r s' => r = .bool (decide (a = b)) ∧ ∃ G' H', Inv X pins σ H' s' ∧ Gr G H G' H') X.xe s := by
  obtain ⟨p, dp, fp, rfl, hp⟩ := In1.ins r1
  obtain ⟨q, dq, fq, rfl, hq⟩ := In1.ins r2
  cases rx
  cases ry
  obtain ⟨f, E, hc⟩ := F.run A pins s σ G H p q a b sb I sG r1 r2 p1 p2
  obtain ⟨mA, J, _⟩ := ins_get I.hok (sG _ _ hp)
  obtain ⟨mB, J', _⟩ := ins_get I.hok (sG _ _ hq)
  obtain ⟨od, J, _⟩ := J.look
  obtain ⟨od', J', _⟩ := J'.look
  obtain ⟨m, hF⟩ := I.fr
  refine PySem.W.cmp_K (op := .Eq) (tb := .ref C) sb.room.units0 hF I.ok.mod.kin J J'.type (by simp [PySem.W.notFirst]) E.eq E.fn (wpAny_mono hc (fun r s' h => ?_) fun _ _ e => e)
  obtain ⟨rfl, h⟩ := h
  exact ⟨rfl, h⟩
theorem EqOk.ne (F : EqOk X n C pre) {A : Around} {pins : List (Addr × Obj)} {s : Shared} {σ : St} {G H : Hp} {u v : V} {x y : Value} {a b : α} (sb : Sub X (n + 1) A) (I : Inv X pins σ H s) (sG : Same G H) (r1 : rp G u a) (r2 : rp G v b) (rx : RelV u x) (ry : RelV v y) (p1 : pre a) (p2 : pre b) :
    wpAny (model X.prog X.w) A (compareOp .NotEq x y) (fun r s' => r = .bool (!decide (a = b)) ∧ ∃ G' H', Inv X pins σ H' s' ∧ Gr G H G' H') X.xe s := by
  obtain ⟨p, dp, fp, rfl, hp⟩ := In1.ins r1
  obtain ⟨q, dq, fq, rfl, hq⟩ := In1.ins r2
  cases rx
  cases ry
  obtain ⟨f, E, hc⟩ := F.run A.in1 pins s σ G H p q a b sb.in1 I sG r1 r2 p1 p2
  have g1 := inst_of I (sG _ _ hp)
  have g2 := inst_of I (sG _ _ hq)
  have hu : A.units + 1 < cLine := by have := sb.room.un; omega
  have raw := E.raw I.kIn g1 rfl
  obtain ⟨hh, gg, d, t, os⟩ := s
  refine compareOp_ne_ownEq PySem.F.cmp_object raw g2 rfl hu (wpAny_mono hc (fun r s' h => ?_) fun _ _ e => e)
  obtain ⟨rfl, h⟩ := h
  exact ⟨_, rfl, rfl, h⟩
theorem EqOk.eqB [Ri α] (F : EqOk X n C pre) {A : Around} {pins : List (Addr × Obj)} {s : Shared} {σ : St} {G H : Hp} {u v : V} {x y : Value} {a b : α} (sb : Sub X n A) (I : Inv X pins σ H s) (sG : Same G H) (r1 : rp G u a) (r2 : rp G v b) (rx : RelV u x) (ry : RelV v y) (p1 : pre a) (p2 : pre b) :
    wpAny (model X.prog X.w) A (eqBool x y) (fun r s' => r = decide (a = b) ∧ ∃ G' H', Inv X pins σ H' s' ∧ Gr G H G' H') X.xe s := by
  have rc := F.rc sb I sG r1 r2 rx ry p1 p2
  obtain ⟨p, dp, fp, rfl, hp⟩ := In1.ins r1
  obtain ⟨q, dq, fq, rfl, hq⟩ := In1.ins r2
  cases rx
  cases ry
  by_cases hpq : p = q
  · subst hpq
    have e : a = b := Ri.inj r1 r2
    refine SeqAt.EqAt.same (A := A) (s := s) (.ref p) X.prog X.w X.xe _ ⟨by simp [e], G, H, I, GrM.refl sG⟩
  · exact GQ.eqBool_refG hpq (wpAny_mono rc (fun r s' h => ⟨_, h.1, rfl, h.2⟩) fun _ _ e => e)
end
section
variable {prog : Program} {w : World} {A : Around} {E : Value → Shared → Prop}
open MeetsSeq MeetsSeq2 MeetsSeq3 SeqRoads2
open AutoSeq1 (wpAny_loadPart')
/-- x in a list, where == may make objects: J is kept -/
def HasI (prog : Program) (w : World) (A : Around) (E : Value → Shared → Prop) (l : Addr) (x : Value) (N : Nat) (e : Nat → Bool) (J : Shared → Prop) : Prop :=
  ∀ s, J s → ∃ (items : Array Value) (ep : Nat), s.heap.get? l = some { cls := .type "list", data := .seq items ep } ∧ items.size = N ∧ ∀ i (_ : i < items.size), wpAny (model prog w) A.in1 (eqBool items[i] x) (fun r s' => r = e i ∧ J s') E s
theorem has_loop {l : Addr} {N : Nat} {x : Value} (J : Shared → Prop) (e : Nat → Bool) {R : Result → Shared → Prop} (hl : HasI prog w A (fun er s' => R (.error er) s') l x N e J) (k : Nat) :
    ∀ (i : Nat) (s : Shared), i + k = N → J s → (∀ s', J s' → R (.ok (.ret (.bool ((List.range' i k).any e)))) s') →
      wpAny (model prog w) A.in1 (Builtin.«list.__contains__.loop» ⟨[.ref l, x, rawInt i], []⟩) (GQ.FinOf prog w A R) (fun er s' => R (.error er) s') s := by
  induction k with
  | zero =>
    intro i s hi hJ hR
    have fin := hR s hJ
    obtain ⟨items, ep, gl, hN, _⟩ := hl s hJ
    obtain ⟨hp, g, d, tk, os⟩ := s
    wp_walk using wpAny_loadPart' gl
    have no : items[((i : Nat) : Int).toNat]? = none := by simp; omega
    rw [no]
    wp_walk
    exact fin
  | succ k ih =>
    intro i s hi hJ hR
    obtain ⟨items, ep, gl, hN, eb⟩ := hl s hJ
    have lt : i < items.size := by omega
    have eb := eb i lt
    obtain ⟨hp, g, d, tk, os⟩ := s
    wp_walk using wpAny_loadPart' gl
    have yes : items[((i : Nat) : Int).toNat]? = some items[i] := by simp [lt]
    rw [yes]
    refine wpAny_bind (wpAny_mono eb (fun r s' h => ?_) fun _ _ z => z)
    obtain ⟨hr, hJ'⟩ := h
    have e1 : List.range' i (k + 1) = i :: List.range' (i + 1) k := List.range'_succ ..
    rw [e1] at hR
    cases hb : e i with
    | true =>
      have fin := hR s' hJ'
      rw [List.any_cons, hb] at fin
      rw [hb] at hr
      subst hr
      obtain ⟨hp2, g2, d2, tk2, os2⟩ := s'
      wp_walk
      exact fin
    | false =>
      rw [hb] at hr
      subst hr
      have rec_ := ih (i + 1) s' (by omega) hJ' (fun s2 h2 => by have := hR s2 h2; rw [List.any_cons, hb] at this; exact this)
      have hc : ((i : Int) + 1) = ((i + 1 : Nat) : Int) := by push_cast; rfl
      obtain ⟨hp2, g2, d2, tk2, os2⟩ := s'
      wp_walk
      rw [hc]
      exact ⟨plainId_quiet plain_contains_loop _, codeAny_builtin entry_contains_loop (by
        rw [Around.under_plainId plain_contains_loop _]
        exact rec_)⟩
theorem has_own {l : Addr} {N : Nat} {x : Value} {s : Shared} {Q : Bool → Shared → Prop} (J : Shared → Prop) (e : Nat → Bool) (hl : HasI prog w A E l x N e J) (hJ : J s) (k : ∀ s', J s' → Q ((List.range' 0 N).any e) s') :
    wpAny (model prog w) A (contains (.ref l) x) Q E s := by
  obtain ⟨items, ep, gl, hN, _⟩ := hl s hJ
  have hT : s.TypeIs (.ref l) "list" := ⟨_, gl, rfl⟩
  refine wpAny_contains_slot hT F.slot_list_contains (GQ.call_here F.slot_list_contains hT F.entry_list_contains (F.args_list_contains_2 _ _) ?_)
  have lp := has_loop (prog := prog) (w := w) (A := A) (R := wants (fun v s' => wpAny (model prog w) A (truthy v) Q E s') E) J e hl N 0 s (by omega) hJ (fun s' h => wpAny_truthy_bool (k s' h))
  obtain ⟨hp, g, d, tk, os⟩ := s
  wp_walk using wpAny_loadPart' gl
  exact ⟨plainId_quiet plain_contains_loop _, codeAny_builtin entry_contains_loop (by
    rw [Around.under_plainId plain_contains_loop _]
    exact lp)⟩
end
section
variable {X : Cx} {n k : Nat} {C : Addr} {α : Type} [Rp α] [DecidableEq α] [In1 α C] {pre : α → Prop} {σ : St} {G : Hp} {a b : Expr} {pos : Pos}
theorem pl_at {F : V → α → Prop} {xs : List V} {l : List α} {i : Nat} (pr : Paired F xs l) (h : i < xs.length) (h2 : i < l.length) : F xs[i] l[i] := by
  obtain ⟨y, e1, e2⟩ := paired_at pr (List.getElem?_eq_getElem h)
  rw [List.getElem?_eq_getElem h2] at e1
  cases e1
  exact e2
theorem range_any {l : List α} {x : α} : (List.range' 0 l.length).any (fun i => match l[i]? with | some y => decide (y = x) | none => false) = decide (x ∈ l) := by
  rw [Bool.eq_iff_iff, List.any_eq_true, decide_eq_true_eq]
  constructor
  · rintro ⟨i, _, h⟩
    cases e : l[i]? with
    | none => rw [e] at h; cases h
    | some y =>
      rw [e] at h
      have h' : y = x := by simpa using h
      exact h' ▸ List.mem_of_getElem? e
  · intro h
    obtain ⟨i, hi, e⟩ := List.getElem_of_mem h
    exact ⟨i, by simp [List.mem_range'_1, hi], by rw [List.getElem?_eq_getElem hi, e]; simp⟩
theorem EqOk.has [Ri α] (F : EqOk X n C pre) {pins : List (Addr × Obj)} {s : Shared} {H : Hp} {u v : V} {x y : Value} {d : α} {l : List α} (hr : Room (n + 1) X.A) (I : Inv X pins σ H s) (sG : Same G H) (r1 : rp G u d) (r2 : rp G v l) (rx : RelV u x) (ry : RelV v y) (p1 : pre d) (p2 : ∀ z ∈ l, pre z) :
    wpAny (model X.prog X.w) X.A (contains y x) (fun r s' => r = decide (d ∈ l) ∧ ∃ G' H', Inv X pins σ H' s' ∧ Gr G H G' H') X.xe s := by
  obtain ⟨q, xs, rfl, hq, pr⟩ := r2
  cases ry
  refine has_own (N := l.length) (fun s' => ∃ G' H', Inv X pins σ H' s' ∧ Gr G H G' H') (fun i => match l[i]? with | some z => decide (z = d) | none => false) (fun s' ⟨G', H', I', g⟩ => ?_) ⟨G, H, I, GrM.refl sG⟩ fun s' h => ⟨range_any, h⟩
  obtain ⟨z, its, m, rv, e⟩ := I'.hok q _ (g.s _ _ (g.g _ _ hq))
  refine ⟨its.toArray, m, e, by rw [List.size_toArray, ← rv.length, pr.length], fun i hi => ?_⟩
  have h1 : i < its.length := by simpa using hi
  have h2 : i < xs.length := by rw [rv.length]; exact h1
  have h3 : i < l.length := by rw [← pr.length]; exact h2
  obtain ⟨u2, hu2, ru2⟩ := rv.get (List.getElem?_eq_getElem h2)
  rw [List.getElem?_eq_getElem h1] at hu2
  have e1 : its.toArray[i] = u2 := by simpa using Option.some.inj hu2
  rw [e1]
  have e4 : (match l[i]? with | some z => decide (z = d) | none => false) = decide (l[i] = d) := by rw [List.getElem?_eq_getElem h3]
  show wpAny _ _ _ (fun r s' => r = (match l[i]? with | some z => decide (z = d) | none => false) ∧ _) _ _
  rw [e4]
  refine wpAny_mono (F.eqB ⟨hr.in1, rfl⟩ I' g.s (rup g.g (pl_at pr h2 h3)) (rup g.g r1) ru2 rx (p2 _ (List.getElem_mem h3)) p1) (fun r s2 h => ?_) fun _ _ z => z
  obtain ⟨hr', G2, H2, I2, g2⟩ := h
  exact ⟨hr', G2, H2, I2, g.trans g2⟩
/-- what the own == and the list's in ask -/
def rOwn (X : Cx) (f : Value → Value → Sem Value) (P : V → V → Bool → Hp → Hp → Prop) : R2 := fun x y H Q => ∃ G b, Same G H ∧ P x y b G H ∧ ∀ G' H', Gr G H G' H' → Q (.bl b) H'
theorem ep_of {pins : List (Addr × Obj)} {H : Hp} {Q : VK} {t : Sem Value} {s : Shared} {z : Bool} {A : Around} (h : wpAny (model X.prog X.w) A t (fun r s' => r = .bool z ∧ ∃ G' H', Inv X pins σ H' s' ∧ Gr G H G' H') X.xe s) (k : ∀ G' H', Gr G H G' H' → Q (.bl z) H') :
    wpAny (model X.prog X.w) A t (EP X pins σ Q) X.xe s := wpAny_mono h (fun r s' ⟨e, G', H', I', g⟩ => ⟨.bl z, H', I', e, k G' H' g⟩) fun _ _ z => z
theorem Ev.eqO (F : EqOk X n C pre) (hr : Room n X.A) {x y : α} (ha : Ev X a σ G x) (hb : Ev X b σ G y) (p1 : pre x) (p2 : pre y) : Ev X (.Compare a [.Eq] [b] pos) σ G (decide (x = y)) :=
  Ev.cmp (r := fun u v H Q => ∃ G x y, Same G H ∧ rp G u x ∧ rp G v y ∧ pre x ∧ pre y ∧ ∀ G' H', Gr G H G' H' → Q (.bl (decide (x = y))) H')
    (fun pins s σ H u v uu vv Q I ru rv ⟨G, x, y, s1, r1, r2, p1, p2, k⟩ => ep_of (F.rc ⟨hr, rfl⟩ I s1 r1 r2 ru rv p1 p2) k) (nomark _)
    (fun G H u v Q s r1 r2 k => ⟨G, x, y, s, r1, r2, p1, p2, fun G' H' g => k G' H' _ g rfl⟩) ha hb
theorem ET.eqO (F : EqOk X n C pre) (hr : Room n X.A) {x y : α} (ha : Ev X a σ G x) (hb : Ev X b σ G y) (p1 : pre x) (p2 : pre y) : ET X (.Compare a [.Eq] [b] pos) σ G (decide (x = y)) :=
  ET.cmp (r := fun u v H Q => ∃ G x y, Same G H ∧ rp G u x ∧ rp G v y ∧ pre x ∧ pre y ∧ ∀ G' H', Gr G H G' H' → Q (.bl (decide (x = y))) H')
    (fun pins s σ H u v uu vv Q I ru rv ⟨G, x, y, s1, r1, r2, p1, p2, k⟩ => ep_of (F.rc ⟨hr, rfl⟩ I s1 r1 r2 ru rv p1 p2) k) (nomark _)
    (fun G H u v Q s r1 r2 k => ⟨G, x, y, s, r1, r2, p1, p2, fun G' H' g => k G' H' _ g rfl⟩) ha hb
theorem ET.neO (F : EqOk X n C pre) (hr : Room (n + 1) X.A) {x y : α} (ha : Ev X a σ G x) (hb : Ev X b σ G y) (p1 : pre x) (p2 : pre y) : ET X (.Compare a [.NotEq] [b] pos) σ G (!decide (x = y)) :=
  ET.cmp (r := fun u v H Q => ∃ G x y, Same G H ∧ rp G u x ∧ rp G v y ∧ pre x ∧ pre y ∧ ∀ G' H', Gr G H G' H' → Q (.bl (!decide (x = y))) H')
    (fun pins s σ H u v uu vv Q I ru rv ⟨G, x, y, s1, r1, r2, p1, p2, k⟩ => ep_of (F.ne ⟨hr, rfl⟩ I s1 r1 r2 ru rv p1 p2) k) (nomark _)
    (fun G H u v Q s r1 r2 k => ⟨G, x, y, s, r1, r2, p1, p2, fun G' H' g => k G' H' _ g rfl⟩) ha hb
theorem ET.inO [Ri α] (F : EqOk X n C pre) (hr : Room (n + 1) X.A) {x : α} {l : List α} (ha : Ev X a σ G x) (hb : Ev X b σ G l) (p1 : pre x) (p2 : ∀ z ∈ l, pre z) (hm : behindInMarks .In b = false := by rfl) : ET X (.Compare a [.In] [b] pos) σ G (decide (x ∈ l)) :=
  ET.cmp (r := fun u v H Q => ∃ G x l, Same G H ∧ rp G u x ∧ rp G v l ∧ pre x ∧ (∀ z ∈ l, pre z) ∧ ∀ G' H', Gr G H G' H' → Q (.bl (decide (x ∈ l))) H')
    (fun pins s σ H u v uu vv Q I ru rv ⟨G, x, l, s1, r1, r2, p1, p2, k⟩ => by
      show wpAny _ X.A (do return Value.bool (← contains vv uu)) _ _ s
      refine wpAny_bind (wpAny_mono (F.has hr I s1 r1 r2 ru rv p1 p2) (fun r s' h => ?_) fun _ _ z => z)
      obtain ⟨hr', G', H', I', g⟩ := h
      subst hr'
      exact wpAny_pure ⟨.bl _, H', I', rfl, k G' H' g⟩) hm
    (fun G H u v Q s r1 r2 k => ⟨G, x, l, s, r1, r2, p1, p2, fun G' H' g => k G' H' _ g rfl⟩) ha hb
end
end D1

namespace D1
open PySem L2 Rp
theorem GrM.hh {G H G' H' : Hp} (r : GrM M0 G H G' H') : Same H H' := Gr.hh r
theorem GrM.any {M : Addr → Prop} {G H G' H' : Hp} (r : GrM M0 G H G' H') : GrM M G H G' H' := Gr.any r

/-! ### instances: fields, methods, making -/
section
variable {α β γ δ : Type} [Rp α] [Rp β] [Rp γ] [Rp δ] {X : Cx} {e o a b c tg : Expr} {σ : St} {G G1 H1 : Hp} {pos p apos : Pos} {rest th : List Stmt} {N : St → Hp → Prop} {R : V → Hp → Prop} {k j : Nat} {C : Addr} {m x : Str}
/-- the field f of such data holds z -/
def FldOf (K : PySem.W.Frag) (f : Str) (d : α) (z : β) : Prop := ∀ H v, rp H v d → ∃ p C dx fs u, v = .ref p ∧ H p = some (.ins C dx fs) ∧ Cls K C ∧ NoAttr K C f ∧ fs.lookup f = some u ∧ rp H u z
theorem Ev.fld {f : Str} {d : α} {z : β} (hf : FldOf X.K f d z) (h : Ev X e σ G d) (hb : attributeBase e f X.env (eval e X.env) = eval e X.env := by rfl) : Ev X (.Attribute e f pos) σ G z := fun G1 H1 Q s1 s2 k =>
  WE.of (pe_fld pe_we hb) (h G1 H1 _ s1 s2 fun G2 H2 v g r => by
    obtain ⟨p, C, dx, fs, u, rfl, h1, cl, na, lk, ru⟩ := hf _ _ r
    exact ⟨p, C, dx, fs, u, rfl, g.s _ _ h1, cl, na, lk, k _ _ _ g ru⟩)
/-- the data is an instance that has no field m -/
def MthOf (C : Addr) (m : Str) (d : α) : Prop := ∀ H v, rp H v d → ∃ p dx fs, v = .ref p ∧ H p = some (.ins C dx fs) ∧ fs.lookup m = none
theorem Ev.meth0 {pl : Sem Bool} {pre : α → Prop} {f : α → β} {d : α} (c : C8.Met X.prog X.w X.K X.mg X.base k C m (P1 pre f) []) (hr : Room j X.A) (hm : MthOf C m d) (h : Ev X o σ G d) (hp : pre d) (hk : k ≤ j := by decide)
    (ht : eval (.Call (.Attribute o m apos) [] [] pos) X.env = (do
      let ov ← eval o X.env
      standAt apos.atName
      let (f, first) ← holding [ov] (getMethod ov m pl)
      callWith pos f first (backTo pos (starEach [] X.env)) (backToKw pos (keywordEach [] X.env))) := by rfl) : Ev X (.Call (.Attribute o m apos) [] [] pos) σ G (f d) := fun G1 H1 Q s1 s2 kk =>
  WE.of (C8.pe_mt0 (pl := pl) c hr hk pe_we ht) (h G1 H1 _ s1 s2 fun G2 H2 v g r => by
    obtain ⟨p, dx, fs, rfl, h1, lk⟩ := hm _ _ r
    exact ⟨p, dx, fs, rfl, g.s _ _ h1, lk, G2, _, d, rfl, g.s, r, hp, fun G3 H3 w g2 r2 => kk _ _ _ (g.trans g2) r2⟩)
theorem Ev.meth1 {pl : Sem Bool} {pre : α → β → Prop} {f : α → β → γ} {d : α} {z : β} (c : C8.Met X.prog X.w X.K X.mg X.base k C m (P2 pre f) []) (hr : Room j X.A) (hm : MthOf C m d) (h : Ev X o σ G d) (h2 : Ev X e σ G z) (hp : pre d z) (hk : k ≤ j := by decide)
    (hst : starEach [e] X.env = (false, eval e X.env) :: starEach [] X.env := by rfl) (hpl : (backTo pos (starEach [] X.env)).any (·.1) = false := by rfl)
    (ht : eval (.Call (.Attribute o m apos) [e] [] pos) X.env = (do
      let ov ← eval o X.env
      standAt apos.atName
      let (f, first) ← holding [ov] (getMethod ov m pl)
      callWith pos f first (backTo pos (starEach [e] X.env)) (backToKw pos (keywordEach [] X.env))) := by rfl) : Ev X (.Call (.Attribute o m apos) [e] [] pos) σ G (f d z) := fun G1 H1 Q s1 s2 kk =>
  WE.of (C8.pe_mt (pl := pl) c hr hk pe_we (pa_cons pe_we pa_nil hst) hst hpl ht) (h G1 H1 _ s1 s2 fun G2 H2 v g r => by
    obtain ⟨p, dx, fs, rfl, h1, lk⟩ := hm _ _ r
    exact ⟨p, dx, fs, rfl, g.s _ _ h1, lk, h2 G2 H2 _ (s1.trans g.g) g.s fun G3 H3 u g2 r2 => ⟨G3, _, _, d, z, rfl, g2.s, rup g2.g r, r2, hp, fun G4 H4 w g3 r3 => kk _ _ _ ((g.trans g2).trans g3) r3⟩⟩)
/-- what an __init__ of two arguments promises: the new object is f a b -/
def PI2 (C : Addr) (pre : α → β → Prop) (f : α → β → γ) : Sp := fun vs H Q _ => ∃ G x dx u v a b, vs = [.ref x, u, v] ∧ H x = some (.ins C dx []) ∧ G x = none ∧ Same G H ∧ rp G u a ∧ rp G v b ∧ pre a b ∧
  ∀ G' H' o, GrM (fun q => q = x) G H G' H' → H' x = some o → rp (upd G' x o) (.ref x) (f a b) → Q .non H'
theorem made_gr {G H : Hp} {x dx : Addr} {C : Addr} (s : Same G H) (hx : H x = none) (hdx : H dx = none) : Same G (upd (upd H dx (.own x)) x (.ins C dx [])) := fun b o e => by
  have e1 := s b o e
  rw [upd_ne (ne_of_none e1 hx), upd_ne (ne_of_none e1 hdx)]
  exact e1
theorem Ev.make2 {pre : α → β → Prop} {f : α → β → γ} {d : α} {z : β} (c : C8.Mak X.prog X.w X.K X.mg X.base k x C (PI2 C pre f) []) (hr : Room j X.A) (ha : Ev X a σ G d) (hb : Ev X b σ G z) (hp : pre d z) (hk : k + 1 ≤ j := by decide) (hg : Gl X x := by rfl)
    (hdb : (x == ("__debug__" : Str)) = false := by decide) (he : starEach [a, b] X.env = (false, eval a X.env) :: starEach [b] X.env := by rfl) (he2 : starEach [b] X.env = (false, eval b X.env) :: starEach [] X.env := by rfl) (hpl : (backTo pos (starEach [b] X.env)).any (·.1) = false := by rfl) :
    Ev X (.Call (.Name x p) [a, b] [] pos) σ G (f d z) := fun G1 H1 Q s1 s2 kk =>
  WE.of (C8.pe_mk c hr hk hg (pa_cons pe_we (pa_cons pe_we pa_nil he2) he) hdb he hpl) (ha G1 H1 _ s1 s2 fun G2 H2 v g r => hb G2 H2 _ (s1.trans g.g) g.s fun G3 H3 u g2 r2 q dq hq hdq ne => by
    have sm := made_gr (C := C) g2.s hq hdq
    have gq : G3 q = none := g2.s.free hq
    refine ⟨G3, q, dq, v, u, d, z, rfl, upd_same, gq, sm, rup g2.g r, r2, hp, fun G4 H4 ob g3 ho r3 => ⟨rfl, ?_⟩⟩
    have g4q : G4 q = none := g3.f q gq (by rw [upd_same]; exact fun z => nomatch z)
    refine kk (upd G4 q ob) H4 _ ((g.trans g2).trans ?_) r3
    refine ⟨g3.g.trans (same_new g4q), fun b' o' _ e => ?_, fun b' o' e => ?_, fun b' e n => ?_, fun b' n => ?_⟩
    · have ne1 := ne_of_none e hq
      exact g3.h b' o' ne1 (by rw [upd_ne ne1, upd_ne (ne_of_none e hdq)]; exact e)
    · by_cases hb' : b' = q
      · subst hb'; rw [upd_same] at e; cases e; exact ho
      · rw [upd_ne hb'] at e; exact g3.s b' o' e
    · rw [upd_ne (fun z => n (by rw [z]; exact hq))]
      exact g3.f b' e (upd_some (upd_some n))
    · exact g3.d b' (upd_some (upd_some n)))

/-! ### blocks by their weakest preconditions -/
variable {D : Ends}
theorem ws_nil {H : Hp} (h : D.nx σ H) : WS X [] D σ H := WS.of pss_nil h
theorem ws_expr {d : α} (s1 : Same G G1) (s2 : Same G1 H1) (h : Ev X e σ G d) (k : ∀ G2 H2, Gr G1 H1 G2 H2 → WS X rest D σ H2) (hs : swapsWith e none pos.line X.env = pure false := by rfl) : WS X (.Expr e pos :: rest) D σ H1 :=
  WS.cons (ps_expr pe_we hs) (h G1 H1 _ s1 s2 fun G2 H2 v g r => k G2 H2 g)
theorem ws_asg (i : Nat) {y : Str} {px : Pos} {d : α} (s1 : Same G G1) (s2 : Same G1 H1) (h : Ev X e σ G d) (k : ∀ G2 H2 v, Gr G1 H1 G2 H2 → rp G2 v d → WS X rest D (σ.set i (some v)) H2) (hN : X.N.Nodup) (hi : X.N[i]? = some y := by rfl) (hx : Loc X.env.scope y := by first | exact Or.inl rfl | exact Or.inr rfl)
    (hs : swapsWith e (some (.Name y px)) pos.line X.env = pure false := by rfl) (hf : X.fn y = true ∨ X.env.scope.names.lookup y = some .local := by first | exact .inl rfl | exact .inr rfl) : WS X (.Assign [.Name y px] e pos :: rest) D σ H1 :=
  WS.cons (ps_set hN hi hx pe_we hs hf) (h G1 H1 _ s1 s2 fun G2 H2 v g r => k G2 H2 v g r)
/-- .. the value by its own precondition -/
theorem ws_asgW (i : Nat) {y : Str} {px : Pos} {H : Hp} (h : WE X e σ H fun v H2 => WS X rest D (σ.set i (some v)) H2) (hN : X.N.Nodup) (hi : X.N[i]? = some y := by rfl) (hx : Loc X.env.scope y := by first | exact Or.inl rfl | exact Or.inr rfl)
    (hs : swapsWith e (some (.Name y px)) pos.line X.env = pure false := by rfl) (hf : X.fn y = true ∨ X.env.scope.names.lookup y = some .local := by first | exact .inl rfl | exact .inr rfl) : WS X (.Assign [.Name y px] e pos :: rest) D σ H :=
  WS.cons (ps_set hN hi hx pe_we hs hf) h
theorem ws_exprW {H : Hp} (h : WE X e σ H fun v H2 => WS X rest D σ H2) (hs : swapsWith e none pos.line X.env = pure false := by rfl) : WS X (.Expr e pos :: rest) D σ H := WS.cons (ps_expr pe_we hs) h
theorem ws_retW {H : Hp} (h : WE X e σ H D.rt) : WS X (.Return (some e) pos :: rest) D σ H := WS.cons (ps_ret pe_we) h
theorem ws_ret {d : α} (s1 : Same G G1) (s2 : Same G1 H1) (h : Ev X e σ G d) (k : ∀ G2 H2 v, Gr G1 H1 G2 H2 → rp G2 v d → D.rt v H2) : WS X (.Return (some e) pos :: rest) D σ H1 := ws_retW (h G1 H1 _ s1 s2 k)
theorem ws_if {z : Bool} {el : List Stmt} (s1 : Same G G1) (s2 : Same G1 H1) (hc : ET X c σ G z) (h1 : z = true → ∀ G2 H2, Gr G1 H1 G2 H2 → WS X th { D with nx := fun σ' H' => WS X rest D σ' H' } σ H2) (h2 : z = false → ∀ G2 H2, Gr G1 H1 G2 H2 → WS X el { D with nx := fun σ' H' => WS X rest D σ' H' } σ H2) : WS X (.If c th el pos :: rest) D σ H1 :=
  WS.cons (ps_if pt_wt pss_ws pss_ws) (hc G1 H1 _ s1 s2 fun G2 H2 g => by
    cases z with
    | true => exact h1 rfl G2 H2 g
    | false => exact h2 rfl G2 H2 g)
theorem ws_ifF (s1 : Same G G1) (s2 : Same G1 H1) (hc : ET X c σ G false) (h2 : ∀ G2 H2, Gr G1 H1 G2 H2 → WS X rest D σ H2) : WS X (.If c th [] pos :: rest) D σ H1 :=
  ws_if s1 s2 hc (fun h => nomatch h) fun _ G2 H2 g => ws_nil (h2 G2 H2 g)
/-- .. the test by its own precondition -/
theorem ws_ifW {H : Hp} {el : List Stmt} (h : WT X c σ H fun z H2 => if z = true then WS X th { D with nx := fun σ' H' => WS X rest D σ' H' } σ H2 else WS X el { D with nx := fun σ' H' => WS X rest D σ' H' } σ H2) : WS X (.If c th el pos :: rest) D σ H :=
  WS.cons (ps_if pt_wt pss_ws pss_ws) h
/-- self.f = e, self in slot i, a new object that is not standing yet -/
theorem ws_fld (i : Nat) {f y : Str} {q dx : Addr} {fs : List (Str × V)} {px p2 : Pos} {d : α} (s1 : Same G G1) (s2 : Same G1 H1) (hσ : σ[i]? = some (some (.ref q))) (hq : H1 q = some (.ins C dx fs)) (gq : G1 q = none) (cl : Cls X.K C) (na : NoAttr X.K C f) (hl : fs.length < 1000) (h : Ev X e σ G d)
    (k : ∀ G2 H2 v, GrM (fun b => b = q) G1 H1 G2 H2 → H2 q = some (.ins C dx (putF f v fs)) → rp G2 v d → WS X rest D σ H2) (hN : X.N[i]? = some y := by rfl) (hv : Vis X.env.scope y := by first | exact Or.inl rfl | exact Or.inr (Or.inl rfl) | exact Or.inr (Or.inr rfl)) (hd : (y == ("__debug__" : Str)) = false := by decide)
    (hcd : (y == ("__classdict__" : Str)) = false := by decide) (hs : swapsWith e (some (.Attribute (.Name y px) f p2)) pos.line X.env = pure false := by rfl) : WS X (.Assign [.Attribute (.Name y px) f p2] e pos :: rest) D σ H1 :=
  WS.cons (ps_fld (pv i hN hv hd hcd) pe_we hs) (h G1 H1 _ s1 s2 fun G2 H2 v g r => by
    have hq2 := g.hh _ _ hq
    have gq2 := g.f q gq (by rw [hq]; exact fun z => nomatch z)
    exact ⟨_, hσ, q, C, dx, fs, rfl, hq2, cl, na, hl, k _ _ _ (g.any.trans (GrM.put g.s gq2 rfl)) upd_same r⟩)
/-- a list comprehension stored into a field, a name: as any value -/
theorem we_call1 {sp : Sp} {H : Hp} {Q : VK} (c : C8.Cal X.prog X.w X.K X.mg X.base k x sp []) (hr : Room j X.A) (h : WE X a σ H fun v H1 => sp [v] H1 Q C8.E0) (hk : k ≤ j := by decide) (hg : Gl X x := by rfl)
    (hdb : (x == ("__debug__" : Str)) = false := by decide) (hs : starEach [a] X.env = (false, eval a X.env) :: starEach [] X.env := by rfl) (hpl : (backTo pos (starEach [] X.env)).any (·.1) = false := by rfl) : WE X (.Call (.Name x p) [a] [] pos) σ H Q :=
  WE.of (C8.pe_c c hr hk hg (pa_cons pe_we pa_nil hs) hdb hs hpl) h
theorem we_call2 {sp : Sp} {H : Hp} {Q : VK} (cc : C8.Cal X.prog X.w X.K X.mg X.base k x sp []) (hr : Room j X.A) (h : WE X a σ H fun v H1 => WE X b σ H1 fun u H2 => sp [v, u] H2 Q C8.E0) (hk : k ≤ j := by decide) (hg : Gl X x := by rfl)
    (hdb : (x == ("__debug__" : Str)) = false := by decide) (hs : starEach [a, b] X.env = (false, eval a X.env) :: starEach [b] X.env := by rfl) (hs2 : starEach [b] X.env = (false, eval b X.env) :: starEach [] X.env := by rfl) (hpl : (backTo pos (starEach [b] X.env)).any (·.1) = false := by rfl) : WE X (.Call (.Name x p) [a, b] [] pos) σ H Q :=
  WE.of (C8.pe_c cc hr hk hg (pa_cons pe_we (pa_cons pe_we pa_nil hs2) hs) hdb hs hpl) h
theorem we_call3 {sp : Sp} {H : Hp} {Q : VK} (cc : C8.Cal X.prog X.w X.K X.mg X.base k x sp []) (hr : Room j X.A) (h : WE X a σ H fun v H1 => WE X b σ H1 fun u H2 => WE X c σ H2 fun w H3 => sp [v, u, w] H3 Q C8.E0) (hk : k ≤ j := by decide) (hg : Gl X x := by rfl)
    (hdb : (x == ("__debug__" : Str)) = false := by decide) (hs : starEach [a, b, c] X.env = (false, eval a X.env) :: starEach [b, c] X.env := by rfl) (hs2 : starEach [b, c] X.env = (false, eval b X.env) :: starEach [c] X.env := by rfl) (hs3 : starEach [c] X.env = (false, eval c X.env) :: starEach [] X.env := by rfl) (hpl : (backTo pos (starEach [b, c] X.env)).any (·.1) = false := by rfl) : WE X (.Call (.Name x p) [a, b, c] [] pos) σ H Q :=
  WE.of (C8.pe_c cc hr hk hg (pa_cons pe_we (pa_cons pe_we (pa_cons pe_we pa_nil hs3) hs2) hs) hdb hs hpl) h
theorem we_v (i : Nat) {v : V} {H : Hp} {Q : VK} (h : σ[i]? = some (some v)) (q : Q v H) (hN : X.N[i]? = some x := by rfl) (hv : Vis X.env.scope x := by first | exact Or.inl rfl | exact Or.inr (Or.inl rfl) | exact Or.inr (Or.inr rfl)) (hd : (x == ("__debug__" : Str)) = false := by decide)
    (hcd : (x == ("__classdict__" : Str)) = false := by decide) : WE X (.Name x pos) σ H Q := WE.of (pv i hN hv hd hcd) ⟨v, h, q⟩

/-- a def that stands in a slot is called: one argument -/
theorem Ev.callL (i : Nat) {f0 : Addr} {pre : α → Prop} {f : α → β} {z : α} (c : C8.CalAt X.prog X.w X.K X.mg X.base k f0 (P1 pre f)) (hr : Room j X.A) (hσ : σ[i]? = some (some (.ref f0))) (ha : Ev X a σ G z) (hp : pre z) (hk : k ≤ j := by decide) (hN : X.N[i]? = some x := by rfl)
    (hv : Vis X.env.scope x := by first | exact Or.inl rfl | exact Or.inr (Or.inl rfl) | exact Or.inr (Or.inr rfl)) (hdb : (x == ("__debug__" : Str)) = false := by decide) (hcd : (x == ("__classdict__" : Str)) = false := by decide)
    (hs : starEach [a] X.env = (false, eval a X.env) :: starEach [] X.env := by rfl) (hpl : (backTo pos (starEach [] X.env)).any (·.1) = false := by rfl) : Ev X (.Call (.Name x p) [a] [] pos) σ G (f z) := fun G1 H1 Q s1 s2 kk => by
  obtain ⟨fd, ps, F, kp, bi⟩ := c.ex
  exact WE.of (pe_callL (CX := C8.CX0) (E := C8.E0) (sp := P1 pre f) F (hr.mono hk) hN hv kp bi .nil C8.pass0 (pa_cons pe_we pa_nil hs) hdb hcd hs hpl) ⟨hσ, ha G1 H1 _ s1 s2 fun G2 H2 v g r => ⟨G2, v, z, rfl, g.s, r, hp, fun G3 H3 w g2 r2 => kk _ _ _ (g.trans g2) r2⟩⟩
/-- try: body / except ..: .., where the body raises nothing -/
theorem Bl.try_ (N1 : St → Hp → Prop) {body : List Stmt} {h0 : ExceptHandler} {hs : List ExceptHandler} (hb : Bl X.nox body σ G N1 R) (k : ∀ σ' G', Same G G' → N1 σ' G' → Bl X rest σ' G' N R) : Bl X (.Try body (h0 :: hs) [] [] pos :: rest) σ G N R := fun G1 H1 D s1 s2 kn kr =>
  WS.cons (ps_try_thru0 (t := WS X.nox body) pss_ws) (hb G1 H1 _ s1 s2 (fun G2 H2 σ' g n => k σ' G2 (s1.trans g.g) n G2 H2 D (Same.refl _) g.s (fun G3 H3 σ2 g2 => kn G3 H3 σ2 (g.trans g2)) fun G3 H3 v g2 => kr G3 H3 v (g.trans g2)) fun G2 H2 v g => kr G2 H2 v g)
end

/-! ### dicts with text keys -/
structure DctS (β : Type) where
  kvs : List (Str × β)
  deriving DecidableEq
def KvR {β : Type} [Rp β] (H : Hp) (p : Key × V) (q : Str × β) : Prop := p.1 = Sum.inr q.1 ∧ rp H p.2 q.2
instance {β : Type} [Rp β] : Rp (DctS β) := ⟨fun H v d => ∃ p kvs, v = .ref p ∧ H p = some (.dK kvs) ∧ Paired (KvR H) kvs d.kvs, fun s ⟨p, kvs, e, h, q⟩ => ⟨p, kvs, e, s _ _ h, pmono q fun _ _ r => ⟨r.1, rup s r.2⟩⟩⟩
instance {β : Type} [Rp β] : Ty (DctS β) := ⟨"dict", fun ⟨p, kvs, e, h, _⟩ => by subst e; exact .base (.dK h)⟩
theorem merge_nodup : ∀ {more acc : List (Key × V)}, ((acc ++ more).map (·.1)).Nodup → mergeK acc more = acc ++ more
  | [], acc, _ => by simp [mergeK]
  | kv :: more, acc, h => by
    have hn : (acc.any fun q => decide (q.1 = kv.1)) = false := by
      rw [List.any_eq_false]
      intro q hq
      have h' : (acc.map (·.1) ++ kv.1 :: more.map (·.1)).Nodup := by simpa using h
      rw [List.nodup_append] at h'
      have := h'.2.2 q.1 (List.mem_map_of_mem hq) kv.1 (by simp)
      simpa using this
    have e : putK acc kv.1 kv.2 = acc ++ [kv] := by
      unfold putK
      rw [hn, if_neg (by decide)]
    show mergeK (putK acc kv.1 kv.2) more = _
    rw [e, merge_nodup (by simpa using h)]
    simp
section
variable {α β γ δ : Type} [Rp α] [Rp β] [Rp γ] [Rp δ] {X : Cx} {e o a b c tg : Expr} {σ : St} {G G1 H1 : Hp} {pos p apos : Pos} {rest th : List Stmt} {N : St → Hp → Prop} {R : V → Hp → Prop} {k j : Nat}
theorem pairs_data {G : Hp} : ∀ {xs : List V} {l : List (Str × β)}, Paired (rp G) xs l → ∃ (ps : List Addr) (kvs : List (Key × V)), xs = ps.map V.ref ∧ Paired (fun p (kv : Key × V) => G p = some (.tup [kV kv.1, kv.2])) ps kvs ∧ Paired (KvR G) kvs l
  | _, _, .nil => ⟨[], [], rfl, .nil, .nil⟩
  | _, _, .cons (b := d) r t => by
    obtain ⟨ps, kvs, e, h1, h2⟩ := pairs_data t
    obtain ⟨p, x, y, rfl, hp, r1, r2⟩ := r
    have e1 : x = V.str d.1 := r1
    subst e1
    exact ⟨p :: ps, (Sum.inr d.1, y) :: kvs, by rw [e]; rfl, .cons hp h1, .cons ⟨rfl, r2⟩ h2⟩
theorem kvr_keys {G : Hp} : ∀ {kvs : List (Key × V)} {l : List (Str × β)}, Paired (KvR G) kvs l → kvs.map (·.1) = (l.map (·.1)).map Sum.inr
  | _, _, .nil => rfl
  | _, _, .cons r t => by rw [List.map_cons, List.map_cons, List.map_cons, ← kvr_keys t, r.1]
/-- dict(pairs), the keys unlike -/
theorem Ev.dictP {l : List (Str × β)} (B : Bt X.mg) (h : Ev X e σ G l) (hn : (l.map (·.1)).Nodup) (hc : X.calm = true := by rfl) (hg : Gl X "dict" := by rfl) (hs : starEach [e] X.env = (false, eval e X.env) :: starEach [] X.env := by rfl) (hpl : (backTo pos (starEach [] X.env)).any (·.1) = false := by rfl) :
    Ev X (.Call (.Name "dict" p) [e] [] pos) σ G (DctS.mk l) :=
  Ev.t1 (call_dictP hc) boot_dict' (fun G H v Q s r k => by
    obtain ⟨q, xs, rfl, h1, pr⟩ := r
    obtain ⟨ps, kvs, rfl, h2, h3⟩ := pairs_data pr
    refine ⟨q, ps, kvs, rfl, SqL.of (s _ _ h1), pmono h2 fun _ _ e => SqT.of (s _ _ e), fun p' hp => ?_⟩
    have hk : ((([] : List (Key × V)) ++ kvs).map (fun q => q.1)).Nodup := by
      rw [List.nil_append, kvr_keys h3]
      exact List.Pairwise.map (S := fun a b => a ≠ b) Sum.inr (fun a b (h : a ≠ b) e => h (Sum.inr.inj e)) hn
    rw [merge_nodup hk, List.nil_append]
    have g := Gr.new (o := .dK kvs) s hp
    exact k _ _ _ g ⟨p', kvs, rfl, upd_same, pmono h3 fun _ _ r => ⟨r.1, rup g.g r.2⟩⟩) B.dict h hg (by decide) (by decide) hs hpl
end
end D1
namespace D1
open PySem L2 Rp
section
variable {α β γ δ : Type} [Rp α] [Rp β] [Rp γ] [Rp δ] {P : Program} {w : World} {K : PySem.W.Frag} {mg : Str → Option Value} {base : Heap} {x q : Str} {st : Stmt} {f C : Addr} {fd : FuncData} {N ps : List Str} {k : Nat}
/-- methods: what a body is to show -/
theorem fk1 {pre : α → Prop} {g : α → β} (F : C8.Fun K x q st f fd) (S : FnScope N ps (C8.fnScope st)) (hl : ps.length = 1)
    (body : ∀ (cdv : Value) (A : Around) (outer : List Env) (s : Shared) (H : Hp) (E : XK) (G : Hp) (v : V) (a : α), Room k (BX P w K mg base N q st f cdv A outer s H E).A → rp G v a → pre a →
      Bl (BX P w K mg base N q st f cdv A outer s H E) (C8.fnBody st) (start N [v]) G (fun _ G => rp G .non (g a)) (RV (g a))) : FnOk P w K mg base C8.CX0 (k + 1) f fd ps (P1 pre g) := by
  refine C8.fn0 F S (fun vs H Q E h => ?_) fun cdv A outer s H vs Q E hr h => ?_
  · obtain ⟨G, v, a, rfl, _⟩ := h
    exact hl.symm
  · obtain ⟨G, v, a, rfl, s1, r, p, kk⟩ := h
    exact ⟨_, pss_ws, body cdv A outer s H E G v a hr r p G H _ (Same.refl G) s1 (fun G2 H2 _ g n => kk G2 H2 _ g n) fun G2 H2 v g r => kk G2 H2 v g r⟩
theorem fk2 {pre : α → β → Prop} {g : α → β → γ} (F : C8.Fun K x q st f fd) (S : FnScope N ps (C8.fnScope st)) (hl : ps.length = 2)
    (body : ∀ (cdv : Value) (A : Around) (outer : List Env) (s : Shared) (H : Hp) (E : XK) (G : Hp) (u v : V) (a : α) (b : β), Room k (BX P w K mg base N q st f cdv A outer s H E).A → rp G u a → rp G v b → pre a b →
      Bl (BX P w K mg base N q st f cdv A outer s H E) (C8.fnBody st) (start N [u, v]) G (fun _ G => rp G .non (g a b)) (RV (g a b))) : FnOk P w K mg base C8.CX0 (k + 1) f fd ps (P2 pre g) := by
  refine C8.fn0 F S (fun vs H Q E h => ?_) fun cdv A outer s H vs Q E hr h => ?_
  · obtain ⟨G, u, v, a, b, rfl, _⟩ := h
    exact hl.symm
  · obtain ⟨G, u, v, a, b, rfl, s1, r1, r2, p, kk⟩ := h
    exact ⟨_, pss_ws, body cdv A outer s H E G u v a b hr r1 r2 p G H _ (Same.refl G) s1 (fun G2 H2 _ g n => kk G2 H2 _ g n) fun G2 H2 v g r => kk G2 H2 v g r⟩
end
section
variable {α : Type} [Rp α] {X : Cx} {e : Expr} {σ : St} {G : Hp} {pos p q : Pos} {C : Addr} [In1 α C]
/-- isinstance(e, C), C the own class of the data -/
theorem Ev.isC {d : α} {x : Str} (B : Bt X.mg) (c : C8.InsC X.K C) (hm : X.mg x = some (.ref C)) (h : Ev X e σ G d) (hg : Gl X "isinstance" := by rfl) (hgx : Gl X x := by rfl) (hdb : (x == ("__debug__" : Str)) = false := by decide)
    (hs : starEach [e, .Name x q] X.env = (false, eval e X.env) :: starEach [.Name x q] X.env := by rfl) (hs2 : starEach [.Name x q] X.env = (false, eval (.Name x q) X.env) :: starEach [] X.env := by rfl) (hpl : (backTo pos (starEach [.Name x q] X.env)).any (·.1) = false := by rfl) :
    Ev X (.Call (.Name "isinstance" p) [e, .Name x q] [] pos) σ G true := fun G1 H1 Q s1 s2 k =>
  WE.of (pe_callB (C8.call_isC c) hg B.isinstance boot_isinstance' (pa_cons pe_we (pa_cons (pe_glob (v := .ref C) hgx hm rfl hdb) pa_nil hs2) hs) (by decide) (by decide) hs hpl) (h G1 H1 _ s1 s2 fun G2 H2 v g r => by
    obtain ⟨a, dx, fs, rfl, h1⟩ := In1.ins r
    exact ⟨a, dx, fs, rfl, g.s _ _ h1, k _ _ _ g rfl⟩)
end
end D1

namespace D1
open PySem L2 Rp Da
open PySem.W (alike alikeAll dataLe TotalLe sortLe_total EachIs)
open PyProof.Rows (lexLt itemOrd listOrd lex_irrefl)

/-- data that are sorted as Python sorts them -/
class So (α : Type) [Rp α] [Da α] where
  al : ∀ a b : α, alike (toD a) (toD b) = true
  so : (∀ b : α, ∃ x r, toD b = .tuple (x :: r)) ∨ (∀ b : α, toD b ≠ .none ∧ ∀ xs, toD b ≠ .tuple xs)
instance : So Int := ⟨fun a b => by show alike (.int a) (.int b) = true; simp [alike], .inr fun b => ⟨(by intro h; cases h), fun xs h => by cases h⟩⟩
instance : So Str := ⟨fun a b => by show alike (.str a) (.str b) = true; simp [alike], .inr fun b => ⟨(by intro h; cases h), fun xs h => by cases h⟩⟩
theorem alikeAll_of {α : Type} [Rp α] [Da α] [So α] : ∀ as bs : List α, alikeAll (as.map toD) (bs.map toD) = true
  | [], _ => by simp [alikeAll]
  | _ :: _, [] => by simp [alikeAll]
  | a :: as, b :: bs => by rw [List.map_cons, List.map_cons, alikeAll, So.al, alikeAll_of as bs]; rfl
instance {α : Type} [Rp α] [Da α] [So α] : So (List α) := ⟨fun a b => by show alike (.list _) (.list _) = true; simp only [alike]; exact alikeAll_of a b, .inr fun b => ⟨(by intro h; cases h), fun xs h => by cases h⟩⟩
instance {α β : Type} [Rp α] [Rp β] [Da α] [Da β] [So α] [So β] : So (α × β) := ⟨fun a b => by
  show alike (.tuple _) (.tuple _) = true
  simp only [alike, alikeAll, So.al, Bool.and_true], .inl fun b => ⟨_, _, rfl⟩⟩
instance {α β γ : Type} [Rp α] [Rp β] [Rp γ] [Da α] [Da β] [Da γ] [So α] [So β] [So γ] : So (T3 α β γ) := ⟨fun a b => by
  show alike (.tuple _) (.tuple _) = true
  simp only [alike, alikeAll, So.al, Bool.and_true], .inl fun b => ⟨_, _, rfl⟩⟩
def leD {α : Type} [Rp α] [Da α] (a b : α) : Bool := dataLe false (toD : α → PyData) a b
def sortD {α : Type} [Rp α] [Da α] (l : List α) : List α := l.mergeSort leD
theorem each_of_paired {α : Type} {F : V → α → Prop} : ∀ {xs : List V} {us : List Value} {as : List α}, Paired F xs as → Vals xs us → EachIs (fun u a => ∃ x, RelV x u ∧ F x a) us as
  | _, _, _, .nil, .nil => .nil
  | _, _, _, .cons r t, .cons r' t' => .cons ⟨_, r', r⟩ (each_of_paired t t')
theorem paired_of_each {α : Type} {F : V → α → Prop} : ∀ {us : List Value} {as : List α}, EachIs (fun u a => ∃ x, RelV x u ∧ F x a) us as → ∃ xs, Vals xs us ∧ Paired F xs as
  | _, _, .nil => ⟨[], .nil, .nil⟩
  | _, _, .cons ⟨x, r1, r2⟩ t => by
    obtain ⟨xs, h1, h2⟩ := paired_of_each t
    exact ⟨x :: xs, .cons r1 h1, .cons r2 h2⟩
section
variable {α : Type} [Rp α] [Da α] [So α] {X : Cx}
/-- sorted(xs) of such data -/
def rSortD (α : Type) [Rp α] [Da α] : List V → Hp → VK → Prop := fun vs H Q => ∃ G v, ∃ l : List α, vs = [v] ∧ Same G H ∧ rp G v l ∧ ∀ p xs, H p = none → Paired (rp G) xs (sortD l) → Q (.ref p) (upd H p (.lst xs))
theorem cr_sortD (hu : X.A.units + 2 + dep α < cLine) : CallR X (.builtin "sorted") (rSortD α) := by
  intro pins s σ H vs us Q I r h
  obtain ⟨G, v, l, rfl, sG, ⟨a, xs, rfl, ha, pr⟩, q⟩ := h
  obtain ⟨its, rv, pl, hz⟩ := I.list (SqL.of (sG _ _ ha))
  rw [Vals.ref1 r]
  have e := each_of_paired pr rv
  have er : EachIs (fun u (b : α) => ∃ as, Reads s.heap u (toD b) as) its l := e.mono fun u b ⟨x, r1, r2⟩ => Dp.reads I (toD b) x u (dp (rup sG r2)) r1
  have hs : PySem.W.Sortable (l.map (toD : α → PyData)) := by
    rcases So.so (α := α) with h | h
    · exact PySem.W.Sortable.tuples h
    · exact PySem.W.Sortable.others h
  refine PySem.W.sorted_data (enc := (toD : α → PyData)) (bs := l) pl.isList e er (PySem.W.AllAlike.of So.al) hs (by rw [← pr.length]; exact hz) (fun b _ => by have := dpt b; omega) fun out ho eo => ?_
  obtain ⟨ys, h1, h2⟩ := paired_of_each eo
  obtain ⟨ep, he⟩ := PyProof.Rows.sortedAll_at s.heap its out.toArray
  have hlen : ys.length ≤ sizeLine := by rw [h1.length, ho, ← pr.length]; exact hz
  exact ⟨.ref _, upd H (s.heap.objs.size + 1) (.lst ys), I.laid (t' := s.toks) (fun _ _ => PyProof.Rows.sortedAll_old) (Nat.le_succ _) ⟨hlen, out, ep, h1, he⟩, rfl, q _ _ (I.hok.fresh (Nat.le_succ _)) h2⟩
variable {e : Expr} {σ : St} {G : Hp} {p pos : Pos}
theorem Ev.sortedD {l : List α} (B : Bt X.mg) (hu : X.A.units + 64 < cLine) (h : Ev X e σ G l) (hd : dep α ≤ 62 := by decide) (hg : Gl X "sorted" := by rfl) (hs : starEach [e] X.env = (false, eval e X.env) :: starEach [] X.env := by rfl) (hpl : (backTo pos (starEach [] X.env)).any (·.1) = false := by rfl) :
    Ev X (.Call (.Name "sorted" p) [e] [] pos) σ G (sortD l) :=
  Ev.b1 (cr_sortD (α := α) (by omega)) boot_sorted' (fun G H v Q s r k => ⟨G, v, l, rfl, s, r, fun q xs hq pr => by
    have g := Gr.new (o := .lst xs) s hq
    exact k _ _ _ g ⟨q, xs, rfl, upd_same, pmono pr fun _ _ => rup g.g⟩⟩) B.sorted h hg (by decide) (by decide) hs hpl
end
/-! the order -/
section
variable {α : Type} [Rp α] [Da α]
theorem leD_le : TotalLe (leD : α → α → Bool) := sortLe_total _ false _
theorem leD_trans (a b c : α) (h1 : leD a b = true) (h2 : leD b c = true) : leD a c = true := leD_le.trans a b c h1 h2
theorem leD_total (a b : α) : (leD a b || leD b a) = true := by rcases leD_le.total a b with h | h <;> simp [h]
theorem leD_antisymm [So α] [DecidableEq α] [De α] {a b : α} (h1 : leD a b = true) (h2 : leD b a = true) : a = b := by
  unfold leD at h1 h2
  rw [PySem.W.dataLe_eq] at h1 h2
  have e1 : PySem.W.dataLt (toD b) (toD a) = false := by simpa using h1
  have e2 : PySem.W.dataLt (toD a) (toD b) = false := by simpa using h2
  unfold PySem.W.dataLt at e1 e2
  have e3 := (listOrd itemOrd).total _ _ e2 e1
  have e4 : PyData.eqv (toD a) (toD b) = true := by
    cases h : PyData.eqv (toD a) (toD b) with
    | true => rfl
    | false =>
      have q := (PySem.W.toks_eqv (toD a) (toD b) (So.al a b)).2 h [] [.inl 0]
      rw [e3, PySem.W.lex_pre] at q
      have z : lexLt itemOrd (PySem.W.keyToks (toD b)) (PySem.W.keyToks (toD b)) = false := lex_irrefl _
      rw [z] at q
      exact absurd (show true = false from q) (by decide)
  rw [De.eqv] at e4
  exact of_decide_eq_true e4
def SortedD (l : List α) : Prop := l.Pairwise fun a b => leD a b = true
theorem sortD_perm (l : List α) : (sortD l).Perm l := List.mergeSort_perm l leD
theorem sortD_sorted (l : List α) : SortedD (sortD l) := List.pairwise_mergeSort leD_trans leD_total l
theorem mem_sortD {l : List α} {x : α} : x ∈ sortD l ↔ x ∈ l := (sortD_perm l).mem_iff
theorem sortD_length (l : List α) : (sortD l).length = l.length := (sortD_perm l).length_eq
variable [So α] [DecidableEq α] [De α]
theorem sortedD_unique : ∀ {l m : List α}, l.Perm m → SortedD l → SortedD m → l = m
  | [], m, p, _, _ => (List.nil_perm.mp p).symm
  | a :: l, [], p, _, _ => absurd p.length_eq (by simp)
  | a :: l, b :: m, p, h1, h2 => by
    have hab : a = b := by
      have ha : a ∈ b :: m := p.mem_iff.mp (List.mem_cons_self)
      have hb : b ∈ a :: l := p.mem_iff.mpr (List.mem_cons_self)
      rcases List.mem_cons.mp ha with e | ha
      · exact e
      rcases List.mem_cons.mp hb with e | hb
      · exact e.symm
      exact leD_antisymm (List.rel_of_pairwise_cons h1 hb) (List.rel_of_pairwise_cons h2 ha)
    subst hab
    rw [sortedD_unique (List.Perm.cons_inv p) (List.Pairwise.of_cons h1) (List.Pairwise.of_cons h2)]
theorem sortD_eq {l m : List α} (p : m.Perm l) (h : SortedD m) : sortD l = m := sortedD_unique ((sortD_perm l).trans p.symm) (sortD_sorted l) h
theorem sortD_self {l : List α} (h : SortedD l) : sortD l = l := sortD_eq (List.Perm.refl l) h
end
/-! a list without doubles, as they first come -/
section
variable {α : Type} [DecidableEq α]
def d1 (acc : List α) (x : α) : List α := if x ∈ acc then acc else acc ++ [x]
def dedup (l : List α) : List α := l.foldl d1 []
theorem foldl_d1_nodup : ∀ {l acc : List α}, acc.Nodup → (l.foldl d1 acc).Nodup
  | [], _, h => h
  | x :: l, acc, h => by
    refine foldl_d1_nodup (l := l) ?_
    unfold d1
    split
    · exact h
    · rename_i hn
      rw [List.nodup_append]
      exact ⟨h, by simp, fun a ha b hb e => hn (by have : b = x := by simpa using hb
                                                   rw [← this, ← e]; exact ha)⟩
theorem dedup_nodup (l : List α) : (dedup l).Nodup := foldl_d1_nodup List.nodup_nil
theorem mem_foldl_d1 {y : α} : ∀ {l acc : List α}, y ∈ l.foldl d1 acc ↔ y ∈ acc ∨ y ∈ l
  | [], acc => by simp
  | x :: l, acc => by
    rw [List.foldl_cons, mem_foldl_d1]
    unfold d1
    split
    · rename_i h
      constructor
      · rintro (h' | h')
        · exact .inl h'
        · exact .inr (List.mem_cons_of_mem _ h')
      · rintro (h' | h')
        · exact .inl h'
        · rcases List.mem_cons.mp h' with e | h'
          · exact .inl (e ▸ h)
          · exact .inr h'
    · simp [or_assoc]
theorem mem_dedup {l : List α} {y : α} : y ∈ dedup l ↔ y ∈ l := by unfold dedup; rw [mem_foldl_d1]; simp
theorem foldl_d1_sub : ∀ {l acc : List α}, (l.foldl d1 acc).Sublist (acc ++ l)
  | [], acc => by simp
  | x :: l, acc => by
    rw [List.foldl_cons]
    refine (foldl_d1_sub (l := l)).trans ?_
    unfold d1
    split
    · exact List.Sublist.append_left (List.sublist_cons_self x l) acc
    · simp
theorem dedup_sub (l : List α) : (dedup l).Sublist l := by have := foldl_d1_sub (l := l) (acc := []); simpa [dedup] using this
theorem dedup_length (l : List α) : (dedup l).length ≤ l.length := (dedup_sub l).length_le
theorem foldl_d1_id : ∀ {l acc : List α}, (acc ++ l).Nodup → l.foldl d1 acc = acc ++ l
  | [], acc, _ => by simp
  | x :: l, acc, h => by
    have hx : x ∉ acc := fun hh => by
      rw [List.nodup_append] at h
      exact h.2.2 x hh x (by simp) rfl
    have hd : d1 acc x = acc ++ [x] := if_neg hx
    rw [List.foldl_cons, hd, foldl_d1_id (by simpa using h)]
    simp
theorem dedup_id {l : List α} (h : l.Nodup) : dedup l = l := by unfold dedup; rw [foldl_d1_id (by simpa using h)]; simp
theorem dedup_snoc {l : List α} {i : Nat} {x : α} (h : l[i]? = some x) : dedup (l.take (i + 1)) = d1 (dedup (l.take i)) x := by
  have e : l.take (i + 1) = l.take i ++ [x] := by rw [List.take_succ, h]; rfl
  unfold dedup
  rw [e, List.foldl_append]; rfl
end
end D1

namespace D1
open PySem L2 Rp
section
variable {α β γ δ : Type} [Rp α] [Rp β] [Rp γ] [Rp δ] {X : Cx} {e a b c tg : Expr} {σ : St} {G G1 H1 : Hp} {pos p apos : Pos} {rest th : List Stmt} {D : Ends}
/-- a for whose body may write -/
theorem ws_for {iter : Expr} {body : List Stmt} {l : List γ} {g : TG} {B : γ → Hp → St → St → Prop} (I : Nat → St → Hp → Hp → Prop) (s1 : Same G G1) (s2 : Same G1 H1)
    (hi : EI X tg iter σ G l) (hB : TgB g B) (hg : PG X tg g) (h0 : ∀ G2 H2, Gr G1 H1 G2 H2 → I 0 σ G2 H2)
    (hs : ∀ i c σ1 G2 H2, l[i]? = some c → Same G1 G2 → Same G2 H2 → I i σ1 G2 H2 → ∀ G3 H3 σ2, Gr G2 H2 G3 H3 → B c G3 σ1 σ2 →
      WS X body { nx := fun σ' H' => ∃ G', Same G3 G' ∧ Same G' H' ∧ I (i + 1) σ' G' H', rt := D.rt, ct := fun σ' H' => ∃ G', Same G3 G' ∧ Same G' H' ∧ I (i + 1) σ' G' H', bk := fun σ' H' => WS X rest D σ' H' } σ2 H3)
    (k : ∀ σ1 G2 H2, Same G1 G2 → Same G2 H2 → I l.length σ1 G2 H2 → WS X rest D σ1 H2) (hp : PassesOwn (model X.prog X.w) X.A X.env X.xe) (hc : X.calm = true := by rfl)
    (hso : ∀ x, foldedSetIterable iter X.env x = pure x := by intro _; rfl) : WS X (.For tg iter body [] pos :: rest) D σ H1 :=
  WS.cons (ps_for hp hc pi_wi hg pss_ws hso) (hi G1 H1 _ s1 s2 fun J S Y G2 H2 g2 w hS hY => for_it w (fun i σ' H' => ∃ G3, Same G2 G3 ∧ Same G3 H' ∧ I i σ' G3 H') ⟨G2, Same.refl _, g2.s, h0 G2 H2 g2⟩
    (fun i σ' H' _ ⟨G3, a1, a2, _⟩ => hS H' (a1.trans a2))
    (fun i x σ' H' H'' hi' ⟨G3, a1, a2, a3⟩ y => by
      obtain ⟨c, G4, hc', g4, r⟩ := hY i H' x H'' hi' y G3 a1 a2
      refine hB c G4 H'' x _ _ g4.s r fun σ2 b => ?_
      have h := hs i c σ' G3 H' hc' (g2.g.trans a1) a2 a3 G4 H'' σ2 g4 b
      intro pins s Iv
      refine thn (h pins s Iv) fun f s' q => ?_
      match f, q with
      | .next, ⟨σ3, H3, I3, G5, b1, b2, b3⟩ => exact ⟨σ3, H3, I3, G5, (a1.trans g4.g).trans b1, b2, b3⟩
      | .cont, ⟨σ3, H3, I3, G5, b1, b2, b3⟩ => exact ⟨σ3, H3, I3, G5, (a1.trans g4.g).trans b1, b2, b3⟩
      | .brk, ⟨σ3, H3, I3, q⟩ => exact ⟨σ3, H3, I3, q⟩
      | .ret u, ⟨v, σ3, H3, I3, rv, q⟩ => exact ⟨v, σ3, H3, I3, rv, q⟩)
    fun σ' H' ⟨G3, a1, a2, a3⟩ => k σ' G3 H' (g2.g.trans a1) a2 a3)
/-- x in (a, b), texts -/
theorem r2_inT2 {K : PySem.W.Frag} {neg : Bool} {x y z : Str} : R2K (rIn K neg) x (y, z) (if neg then !decide (x = y ∨ x = z) else decide (x = y ∨ x = z)) := fun G H u v Q s r1 r2 k => by
  cases r1
  obtain ⟨q, u1, u2, rfl, h1, e1, e2⟩ := r2
  cases e1
  cases e2
  refine ⟨q, [.str y, .str z], rfl, .inr (SqT.of (s _ _ h1)), rfl, rfl, ?_⟩
  have h1 : ∀ u v : Str, eqV (.str u) (.str v) = (u == v) := fun u v => rfl
  have e : inV (.str x) [.str y, .str z] = decide (x = y ∨ x = z) := by
    show (eqV (.str y) (.str x) || (eqV (.str z) (.str x) || false)) = _
    rw [h1, h1, Bool.or_false, Bool.eq_iff_iff, Bool.or_eq_true, decide_eq_true_eq, beq_iff_eq, beq_iff_eq]
    exact ⟨fun h => h.imp Eq.symm Eq.symm, fun h => h.imp Eq.symm Eq.symm⟩
  rw [e]
  exact k _ _ _ (GrM.refl s) rfl
theorem ET.niT2 {x y z : Str} (ha : Ev X a σ G x) (hb : Ev X b σ G (y, z)) (hm : behindInMarks .NotIn b = false := by rfl) : ET X (.Compare a [.NotIn] [b] pos) σ G (!decide (x = y ∨ x = z)) := ET.cmp op_notIn_seq hm (r2_inT2 (neg := true)) ha hb
/-- what stands is read beside what is mutable: the borrowed object goes back -/
def rm (G : Hp) (p : Addr) : Hp := fun b => if b = p then none else G b
theorem Gr.give {G H G2 H2 : Hp} {p : Addr} {o : HO} (hG : G p = none) (hH : H p = some o) (g : Gr (upd G p o) H G2 H2) : Gr G H (rm G2 p) H2 := by
  refine ⟨fun b u e => ?_, g.h, fun b u e => ?_, fun b e n => ?_, g.d⟩
  · have hb : b ≠ p := ne_of_none e hG
    unfold rm
    rw [if_neg hb]
    exact g.g b u (by rw [upd_ne hb]; exact e)
  · unfold rm at e
    split at e
    · cases e
    · exact g.s b u e
  · unfold rm
    split
    · rfl
    · rename_i hb
      exact g.f b (by rw [upd_ne hb]; exact e) n
theorem same_borrow {G H : Hp} {p : Addr} {o : HO} (s : Same G H) (hH : H p = some o) : Same (upd G p o) H := fun b u e => by
  by_cases hb : b = p
  · subst hb; rw [upd_same] at e; cases e; exact hH
  · rw [upd_ne hb] at e; exact s b u e
theorem rm_none {G : Hp} {p : Addr} : rm G p p = none := by unfold rm; rw [if_pos rfl]
end
end D1
namespace D1
open PySem L2 Rp
/-- what was made on the way stands from now on -/
theorem GrM.promote {M : Addr → Prop} {G H G' H' : Hp} {p : Addr} {o : HO} (g : GrM M G H G' H') (hp : H p = none) (gp : G' p = none) (ho : H' p = some o) : GrM M G H (upd G' p o) H' := by
  refine ⟨g.g.trans (same_new gp), g.h, same_borrow g.s ho, fun b e n => ?_, g.d⟩
  rw [upd_ne (fun z => n (by rw [z]; exact hp))]
  exact g.f b e n
theorem GrM.fresh {M : Addr → Prop} {G H G' H' : Hp} {p : Addr} (g : GrM M G H G' H') (h : H' p = none) : H p = none := by
  cases e : H p with
  | none => rfl
  | some o => exact absurd h (g.d p (by rw [e]; exact fun z => nomatch z))
end D1

namespace D1
open PySem L2 Rp
section
variable {α β γ δ : Type} [Rp α] [Rp β] [Rp γ] [Rp δ] {X : Cx} {a b c e tg : Expr} {σ : St} {G : Hp} {pos p q px : Pos} {N : St → Hp → Prop} {R : V → Hp → Prop} {rest : List Stmt}
/-! ### numbers -/
def CPowX (i j : Int) : Prop := 0 ≤ j ∧ (Builtin.Int.intBits i : Int) * j ≤ 2 ^ 27
theorem op_powX : OpR X (binaryOp .Pow) (rI CPowX fun i j => .int (i ^ j.toNat)) := opI fun _ _ _ _ _ _ _ hc q => PyProof.Rows.pow_int hc.1 hc.2 q
theorem Ev.mul {i j : Int} (ha : Ev X a σ G i) (hb : Ev X b σ G j) (h : CMul i j) : Ev X (.BinOp a .Mult b pos) σ G (i * j) := Ev.op op_mul (r2_I h) ha hb
theorem Ev.mod {i j : Int} (ha : Ev X a σ G i) (hb : Ev X b σ G j) (h : 0 < j) : Ev X (.BinOp a .Mod b pos) σ G (i % j) := Ev.op op_mod (r2_I h) ha hb
theorem Ev.fdiv {i j : Int} (ha : Ev X a σ G i) (hb : Ev X b σ G j) (h : CDiv i j) : Ev X (.BinOp a .FloorDiv b pos) σ G (i / j) := Ev.op op_fdiv (r2_I h) ha hb
theorem Ev.pow {i j : Int} (ha : Ev X a σ G i) (hb : Ev X b σ G j) (h : CPowX i j) : Ev X (.BinOp a .Pow b pos) σ G (i ^ j.toNat) := Ev.op op_powX (r2_I h) ha hb
theorem Ev.sl2 {l : List α} {i j : Int} {p2 : Pos} (h : Ev X e σ G l) (ha : Ev X a σ G i) (hb : Ev X b σ G j) : Ev X (.Subscript e (.Slice (some a) (some b) none p2) pos) σ G (cutL l (some i) (some j)) := fun G1 H1 Q s1 s2 k =>
  WE.of (pe_slice sl_list pe_we (po_some pe_we) (po_some pe_we)) (h G1 H1 _ s1 s2 fun G2 H2 v g r => ha G2 H2 _ (s1.trans g.g) g.s fun G3 H3 u g2 r2 => ⟨i, r2, hb G3 H3 _ (s1.trans (g.trans g2).g) g2.s fun G4 H4 u2 g3 r3 => ⟨j, r3, rSl_data g3.s (rup (g2.trans g3).g r) fun G5 H5 w g4 r4 => k _ _ _ (((g.trans g2).trans g3).trans g4) r4⟩⟩)
theorem Ev.intB {z : Bool} (hm : X.mg "int" = none) (h : Ev X e σ G z) (hg : Gl X "int" := by rfl) (hs : starEach [e] X.env = (false, eval e X.env) :: starEach [] X.env := by rfl) (hpl : (backTo pos (starEach [] X.env)).any (·.1) = false := by rfl) : Ev X (.Call (.Name "int" p) [e] [] pos) σ G (if z = true then (1 : Int) else 0) :=
  Ev.t1 call_int1 boot_int' (fun G H v Q s r k => by
    cases r
    exact .inr ⟨z, rfl, k _ _ _ (GrM.refl s) rfl⟩) hm h hg (by decide) (by decide) hs hpl
theorem Ev.bits {i : Int} {apos : Pos} (h : Ev X e σ G i) (hbase : attributeBase e "bit_length" X.env (eval e X.env) = eval e X.env := by rfl) (hline : (apos.endLine == pos.line) = true := by rfl) : Ev X (.Call (.Attribute e "bit_length" apos) [] [] pos) σ G ((Builtin.Int.intBits i : Nat) : Int) := fun G1 H1 Q s1 s2 k =>
  WE.of (pe_bits pe_we hbase hline) (h G1 H1 _ s1 s2 fun G2 H2 v g r => by
    cases r
    exact ⟨i, rfl, k _ _ _ g rfl⟩)
/-! ### tuples that are walked -/
structure TupL (α : Type) where
  l : List α
instance : Rp (TupL α) := ⟨fun H v t => ∃ p xs, v = .ref p ∧ H p = some (.tup xs) ∧ Paired (rp H) xs t.l, fun s ⟨p, xs, e, h, q⟩ => ⟨p, xs, e, s _ _ h, pmono q fun _ _ r => rup s r⟩⟩
theorem Ev.tupL {es : List Expr} {xs : List α} {z} (t : EL X es σ G xs) (hz : xs.length ≤ 1000 := by decide) : Ev X (.Tuple es z pos) σ G (TupL.mk xs) := fun G1 H1 Q s1 s2 k =>
  WE.of (pe_tup (t := fun σ' H' Q' => ∀ pos pins s, Inv X pins σ' H' s → wpAny (model X.prog X.w) X.A (spliced (backTo pos (starEach es X.env))) (AP X pins σ' Q') X.xe s) ⟨fun pos pins s σ H Q I h => h pos pins s I⟩)
    (t G1 H1 _ s1 s2 fun G2 H2 vs g r => ⟨by rw [r.length]; exact small_sz hz, fun q hq => by
      have g2 := Gr.new (o := .tup vs) g.s hq
      exact k _ _ _ (g.trans g2) ⟨q, vs, rfl, upd_same, pmono r fun _ _ => rup g2.g⟩⟩)
theorem EI.tupL {t : TupL α} (h : Ev X e σ G t) : EI X tg e σ G t.l := fun G1 H1 R s1 s2 k =>
  WI.of (pi_tup pe_we) (h G1 H1 _ s1 s2 fun G2 H2 v g r => by
    obtain ⟨q, xs, rfl, h1, pr⟩ := r
    have hl := pr.length
    refine ⟨q, rfl, ⟨xs, SqT.of (g.s _ _ h1)⟩, k _ (fun H => SqT X.K H q xs) (YAt xs) G2 H2 g (by rw [← hl]; exact walk_tup) (fun H' s => SqT.of (s _ _ h1)) fun i H x H' hi y G' s3 s4 => ?_⟩
    obtain ⟨rfl, y⟩ := y
    obtain ⟨d, e1, e2⟩ := paired_at pr y
    exact ⟨d, G', e1, GrM.refl s4, rup s3 e2⟩)
/-! ### steps with changes -/
theorem WE.mono {H : Hp} {Q Q' : VK} (h : WE X e σ H Q) (hq : ∀ v H', Q v H' → Q' v H') : WE X e σ H Q' := fun pins s I => thn (h pins s I) fun v s' ⟨x, H', I', r, q⟩ => ⟨x, H', I', r, hq x H' q⟩
theorem we_op {op : Operator} {r : R2} {H : Hp} {Q : VK} (ho : OpR X (binaryOp op) r) (h : WE X a σ H fun u H1 => WE X b σ H1 fun v H2 => r u v H2 Q) : WE X (.BinOp a op b pos) σ H Q := WE.of (pe_op ho pe_we pe_we) h
theorem Ev.ap {e : Expr} {G1 H1 : Hp} {a : α} {Q : VK} (s2 : Same G1 H1) (h : Ev X e σ G1 a) (k : ∀ G2 H2 v, Gr G1 H1 G2 H2 → rp G2 v a → Q v H2) : WE X e σ H1 Q := h G1 H1 Q (Same.refl _) s2 k
theorem ET.ap {e : Expr} {G1 H1 : Hp} {z : Bool} {Q : Bool → Hp → Prop} (s2 : Same G1 H1) (h : ET X e σ G1 z) (k : ∀ G2 H2, Gr G1 H1 G2 H2 → Q z H2) : WT X e σ H1 Q := h G1 H1 Q (Same.refl _) s2 k
/-- a mutable object is read as if it stood -/
theorem Ev.borrow {H : Hp} {q : Addr} {o : HO} {d : α} {Q : VK} (s : Same G H) (hG : G q = none) (hH : H q = some o) (h : Ev X e σ (upd G q o) d) (k : ∀ G2 H2 v, Gr G H G2 H2 → G2 q = none → rp (upd G2 q o) v d → Q v H2) : WE X e σ H Q :=
  h _ H _ (Same.refl _) (same_borrow s hH) fun G2 H2 v g r => k (rm G2 q) H2 v (Gr.give hG hH g) rm_none (rup (fun b u e => by
    by_cases hb : b = q
    · subst hb
      rw [g.g _ _ upd_same] at e
      cases e
      exact upd_same
    · rw [upd_ne hb]
      unfold rm
      rw [if_neg hb]
      exact e) r)
theorem ET.borrow {H : Hp} {q : Addr} {o : HO} {z : Bool} {Q : Bool → Hp → Prop} (s : Same G H) (hG : G q = none) (hH : H q = some o) (h : ET X e σ (upd G q o) z) (k : ∀ G2 H2, Gr G H G2 H2 → G2 q = none → Q z H2) : WT X e σ H Q :=
  h _ H _ (Same.refl _) (same_borrow s hH) fun G2 H2 g => k (rm G2 q) H2 (Gr.give hG hH g) rm_none
/-- xs[k] = e -/
theorem ws_put (i : Nat) {y : Str} {n : Int} {j} {py ip : Pos} {H : Hp} {D : Ends} (h : WE X e σ H fun v H2 => ∃ q xs k, σ[i]? = some (some (.ref q)) ∧ H2 q = some (.lst xs) ∧ ixN xs.length n = some k ∧ WS X rest D σ (upd H2 q (.lst (xs.set k v)))) (hN : X.N[i]? = some y := by rfl) (hv : Vis X.env.scope y := by first | exact Or.inl rfl | exact Or.inr (Or.inl rfl) | exact Or.inr (Or.inr rfl)) (hd : (y == ("__debug__" : Str)) = false := by decide)
    (hcd : (y == ("__classdict__" : Str)) = false := by decide) (hs : swapsWithSole [.Subscript (.Name y py) (.Constant (.int n) j ip) p] e pos.line X.env = pure false := by rfl) (hw : swappedStores [.Subscript (.Name y py) (.Constant (.int n) j ip) p] e X.env = pure none := by rfl)
    (h1 : (assignEach [.Subscript (.Name y py) (.Constant (.int n) j ip) p] X.env).map (·.2) = [assign (.Subscript (.Name y py) (.Constant (.int n) j ip) p) X.env] := by rfl)
    (ha : ∀ v, assign (.Subscript (.Name y py) (.Constant (.int n) j ip) p) X.env v = (do
      let ov ← holding [v] (eval (.Name y py) X.env)
      let iv ← holding [v, ov] (eval (.Constant (.int n) j ip) X.env)
      standAt p
      holding [v, ov, iv] (setItem ov iv v)
      release [v, ov, iv] []) := by intro _; rfl) : WS X (.Assign [.Subscript (.Name y py) (.Constant (.int n) j ip) p] e pos :: rest) D σ H :=
  WS.cons (ps_asg pe_we (pg_sub (pv i hN hv hd hcd) pe_int set_list ha) hs hw h1) (WE.mono h fun v H2 ⟨q, xs, k, e1, e2, e3, e4⟩ => ⟨.ref q, e1, q, xs, n, k, rfl, rfl, e2, e3, e4⟩)
/-! ### walks with changes -/
/-- [elt for target in iter], where elt may write: I by the new list's place, the turn, what is in the list -/
theorem we_lcI {elt iter : Expr} {scope : Scope} {own : List (Str × Nat)} {l : List γ} {g : TG} {B : γ → Hp → St → St → Prop} {G1 H1 : Hp} {Q : VK} (I : Addr → Nat → List V → Hp → Hp → Prop) (s1 : Same G G1) (s2 : Same G1 H1)
    (hi : EI X tg iter σ G l) (hB : TgB g B) (hg : ∀ (s : Shared) (H : Hp) (C : Addr) (cl : List (Str × Addr)) (fp : List Addr), PG (BK X s H scope C cl fp) tg g)
    (h0 : ∀ G2 H2 D, Gr G1 H1 G2 H2 → H2 D = none → I D 0 [] G2 (upd H2 D (.lst [])))
    (he : ∀ D i c acc G2 H2, l[i]? = some c → Same G1 G2 → Same G2 H2 → G2 D = none → H2 D = some (.lst acc) → acc.length = i → H1 D = none → I D i acc G2 H2 → ∀ G3 H3 σ', Gr G2 H2 G3 H3 → B c G3 (wipe σ (own.map (·.2))) σ' → ∀ s H C cl fp,
      WE (BK X s H scope C cl fp) elt σ' H3 fun v H4 => ∃ G4, Same G3 G4 ∧ Same G4 H4 ∧ G4 D = none ∧ H4 D = some (.lst acc) ∧ I D (i + 1) (acc ++ [v]) G4 (upd H4 D (.lst (acc ++ [v]))))
    (k : ∀ D acc G2 H2, Same G1 G2 → Same G2 H2 → G2 D = none → H2 D = some (.lst acc) → H1 D = none → I D l.length acc G2 H2 → Q (.ref D) H2)
    (hw : ∀ c G' σ', B c G' (wipe σ (own.map (·.2))) σ' → wipe σ' (own.map (·.2)) = wipe σ (own.map (·.2))) (hUp : ∀ c G' G'' σ1 σ', Same G' G'' → B c G' σ1 σ' → B c G'' σ1 σ')
    (hz : l.length < sizeLine) (hN : X.N.Nodup) (ok : BlkOk X.N X.env.scope scope own) (hc : X.calm = true := by rfl) (hs : ∀ x, foldedSetIterable iter X.env x = pure x := by intro _; rfl) :
    WE X (.ListComp elt [⟨tg, iter, [], 0⟩] scope pos) σ H1 Q :=
  WE.of (pe_lc (tt := ATs X scope []) (te := AE X scope elt) hc hN pi_wi ok hg (fun s H C cl fp => ⟨fun pins s1 σ' H' Q' I h => h s H C cl fp pins s1 I⟩) (fun s H C cl fp => ⟨fun pins s1 σ' H' Q' I h => h s H C cl fp pins s1 I⟩) hs)
    (hi G1 H1 _ s1 s2 fun J S Y G2 H2 g2 w hS hY D hD => by
      have gD : G2 D = none := g2.s.free hD
      have hD1 : H1 D = none := by
        cases e : H1 D with
        | none => rfl
        | some o => exact absurd hD (g2.d D (by rw [e]; exact fun z => nomatch z))
      refine lc_it (Qd := fun H => Q (.ref D) H) w (fun i H => ∃ G3 acc, Same G2 G3 ∧ Same G3 H ∧ G3 D = none ∧ H D = some (.lst acc) ∧ acc.length = i ∧ I D i acc G3 H) ?_ ?_ ?_ ?_
      · exact ⟨G2, [], Same.refl _, fun b o e => by rw [upd_ne (ne_of_none e gD)]; exact g2.s b o e, gD, upd_same, rfl, h0 G2 H2 D g2 hD⟩
      · rintro i H _ ⟨G3, acc, a1, a2, _⟩
        exact hS H (a1.trans a2)
      · rintro i x H H' hi' ⟨G3, acc, a1, a2, a3, a4, a5, a6⟩ y
        obtain ⟨c, G4, hc', g4, r⟩ := hY i H x H' hi' y G3 a1 a2
        refine hB c G4 H' x _ _ g4.s r fun σ' b => ⟨hw c G4 σ' b, ?_⟩
        intro s0 H0 C cl fp
        refine ETs.nil (X := BK X s0 H0 scope C cl fp) G4 H' _ (Same.refl _) g4.s fun G5 H5 g5 => ?_
        rw [if_pos rfl]
        intro s0 H0 C cl fp
        refine WE.mono (he D i c acc G3 H hc' (g2.g.trans a1) a2 a3 a4 a5 hD1 a6 G5 H5 σ' (g4.trans g5) ?_ s0 H0 C cl fp) fun v H6 ⟨G6, b1, b2, b3, b4, b5⟩ => ?_
        · exact hUp c G4 G5 _ _ g5.g b
        · refine ⟨acc, b4, by omega, G6, acc ++ [v], ((a1.trans g4.g).trans g5.g).trans b1, fun b' o e => ?_, b3, upd_same, by rw [List.length_append, a5]; rfl, b5⟩
          rw [upd_ne (ne_of_none e b3)]
          exact b2 b' o e
      · rintro H ⟨G3, acc, a1, a2, a3, a4, _, a5⟩
        exact k D acc G3 H (g2.g.trans a1) a2 a3 a4 hD1 a5)
/-- for i in range(n), where n comes of a change -/
theorem ws_forR (j : Nat) {y : Str} {body : List Stmt} {G1 H1 : Hp} {D : Ends} (I : Nat → Nat → St → Hp → Hp → Prop) (hm : X.mg "range" = none)
    (h : WE X e σ H1 fun v H2 => ∃ n : Nat, v = .int (n : Int) ∧ (n : Int) < 2 ^ 62 ∧ ∃ G2, Same G1 G2 ∧ Same G2 H2 ∧ I n 0 σ G2 H2)
    (hs : ∀ n i σ1 G2 H2, i < n → Same G1 G2 → Same G2 H2 → I n i σ1 G2 H2 →
      WS X body { nx := fun σ' H' => ∃ G', Same G2 G' ∧ Same G' H' ∧ I n (i + 1) σ' G' H', rt := D.rt, ct := fun σ' H' => ∃ G', Same G2 G' ∧ Same G' H' ∧ I n (i + 1) σ' G' H', bk := fun σ' H' => WS X rest D σ' H' } (σ1.set j (some (.int (i : Int)))) H2)
    (k : ∀ n σ1 G2 H2, Same G1 G2 → Same G2 H2 → I n n σ1 G2 H2 → WS X rest D σ1 H2) (hN : X.N.Nodup) (hj : X.N[j]? = some y := by rfl) (hx : Loc X.env.scope y := by first | exact Or.inl rfl | exact Or.inr rfl) (hp : PassesOwn (model X.prog X.w) X.A X.env X.xe := by exact PassesOwn.never) (hc : X.calm = true := by rfl)
    (hg : Gl X "range" := by rfl) (hst : starEach [e] X.env = [(false, eval e X.env)] := by rfl) (hfn : X.fn y = true ∨ X.env.scope.names.lookup y = some .local := by first | exact .inl rfl | exact .inr rfl)
    (hso : ∀ x, foldedSetIterable (.Call (.Name "range" p) [e] [] q) X.env x = pure x := by intro _; rfl) : WS X (.For (.Name y px) (.Call (.Name "range" p) [e] [] q) body [] pos :: rest) D σ H1 :=
  WS.cons (ps_for hp hc (pi_range1 hg hm (pa_cons pe_we pa_nil hst) hst) (pg_name hN hj hx hfn) pss_ws hso) (WE.mono h fun v H2 ⟨n, e1, e2, G2, a1, a2, a3⟩ => by
    subst e1
    refine ⟨(n : Int), rfl, by omega, e2, ?_⟩
    rw [Int.toNat_natCast]
    exact for_it walk_range (fun i σ' H' => ∃ G3, Same G1 G3 ∧ Same G3 H' ∧ I n i σ' G3 H') ⟨G2, a1, a2, a3⟩ (fun _ _ _ _ _ => trivial)
      (fun i x σ' H' H'' hi ⟨G3, b1, b2, b3⟩ y => by
        obtain ⟨rfl, rfl⟩ := y
        have h := hs n i σ' G3 H'' hi b1 b2 b3
        have ez : (0 : Int) + (i : Int) = (i : Int) := Int.zero_add _
        show WS X body _ (σ'.set j (some (.int (0 + (i : Int))))) H''
        rw [ez]
        intro pins s Iv
        refine thn (h pins s Iv) fun f s' q => ?_
        match f, q with
        | .next, ⟨σ3, H3, I3, G5, c1, c2, c3⟩ => exact ⟨σ3, H3, I3, G5, b1.trans c1, c2, c3⟩
        | .cont, ⟨σ3, H3, I3, G5, c1, c2, c3⟩ => exact ⟨σ3, H3, I3, G5, b1.trans c1, c2, c3⟩
        | .brk, ⟨σ3, H3, I3, q⟩ => exact ⟨σ3, H3, I3, q⟩
        | .ret u, ⟨v, σ3, H3, I3, rv, q⟩ => exact ⟨v, σ3, H3, I3, rv, q⟩)
      fun σ' H' ⟨G3, b1, b2, b3⟩ => k n σ' G3 H' b1 b2 b3)
end
end D1

namespace D1
open PySem L2 Rp
/-- a mutable object beside what stands is written -/
theorem GrM.off {M : Addr → Prop} {G H G' H' : Hp} {p : Addr} {o : HO} (g : GrM M G H G' H') (hp : H p = none) (gp : G' p = none) : GrM M G H G' (upd H' p o) := by
  refine ⟨g.g, fun b u nm e => ?_, fun b u e => ?_, g.f, fun b n => upd_some (g.d b n)⟩
  · rw [upd_ne (ne_of_none e hp)]; exact g.h b u nm e
  · rw [upd_ne (ne_of_none e gp)]; exact g.s b u e
/-- a place itself -/
structure Adr where
  p : Addr
  deriving DecidableEq
instance : Rp Adr := ⟨fun _ v a => v = .ref a.p, fun _ h => h⟩
theorem refs_of : ∀ {H : Hp} {xs : List V} {l : List Adr}, Paired (rp H) xs l → xs = l.map fun a => V.ref a.p
  | _, _, _, .nil => rfl
  | _, _, _, .cons r t => by cases r; rw [refs_of t]; rfl
theorem refs_to {H : Hp} : ∀ l : List Adr, Paired (rp H) (l.map fun a => V.ref a.p) l
  | [] => .nil
  | a :: l => .cons rfl (refs_to l)
section
variable {α β γ δ : Type} [Rp α] [Rp β] [Rp γ] [Rp δ] {X : Cx} {a b c e tg : Expr} {σ : St} {G : Hp} {pos p q px : Pos} {rest : List Stmt}
theorem val_kv {G : Hp} {z : Str} : ∀ {kvs : List (Key × V)} {l : List (Str × β)}, Paired (KvR G) kvs l → (valV kvs (Sum.inr z)).isSome = decide (z ∈ l.map (·.1))
  | _, _, .nil => by simp [valV_nil]
  | kv :: kvs, q :: l, .cons r t => by
    by_cases e : q.1 = z
    · have e1 : kv.1 = Sum.inr z := by rw [r.1, e]
      rw [valV_pos e1, List.map_cons, e]
      exact (decide_eq_true List.mem_cons_self).symm
    · have e1 : ¬ kv.1 = Sum.inr z := fun h => e (Sum.inr.inj (r.1.symm.trans h))
      rw [valV_neg e1, val_kv t]
      have e2 : (z ∈ (q :: l).map (·.1)) ↔ z ∈ l.map (·.1) := by
        rw [List.map_cons, List.mem_cons]
        exact ⟨fun h => h.resolve_left fun h => e h.symm, .inr⟩
      rw [Bool.eq_iff_iff, decide_eq_true_eq, decide_eq_true_eq]
      exact e2.symm
/-- x in d -/
theorem ET.inDict {z : Str} {d : DctS β} (hu : X.A.units + 1 < cLine) (ha : Ev X a σ G z) (hb : Ev X b σ G d) (hm : behindInMarks .In b = false := by first | exact nobehind _ (by decide) (by decide) | rfl) : ET X (.Compare a [.In] [b] pos) σ G (decide (z ∈ d.kvs.map (·.1))) := fun G1 H1 Q s1 s2 k =>
  WT.of (pt_cmp (pc_din hu pe_we pe_we) hm) (ha G1 H1 _ s1 s2 fun G2 H2 v g r => hb G2 H2 _ (s1.trans g.g) g.s fun G3 H3 u g2 r2 => by
    cases r
    obtain ⟨q, kvs, rfl, h1, pr⟩ := r2
    refine ⟨q, _, rfl, DGet.k (k := Sum.inr z) (g2.s _ _ h1), _, rfl, ?_⟩
    rw [val_kv pr]
    exact k _ _ (g.trans g2))
/-- sorted(xs) of texts that come of a change -/
theorem we_sortedS {H : Hp} {Q : VK} (B : Bt X.mg) (h : WE X e σ H fun v H1 => ∃ G1, ∃ l : List Str, Same G1 H1 ∧ rp G1 v l ∧ l.length < 64 ∧ ∀ p, H1 p = none → Q (.ref p) (upd H1 p (.lst ((sortS l).map V.str)))) (hg : Gl X "sorted" := by rfl) (hs : starEach [e] X.env = (false, eval e X.env) :: starEach [] X.env := by rfl) (hpl : (backTo pos (starEach [] X.env)).any (·.1) = false := by rfl) : WE X (.Call (.Name "sorted" p) [e] [] pos) σ H Q :=
  WE.of (pe_callB cr_sortedS hg B.sorted boot_sorted' (pa_cons pe_we pa_nil hs) (by decide) (by decide) hs hpl) (WE.mono h fun v H1 ⟨G1, l, s, r, hl, kk⟩ => by
    obtain ⟨q, xs, rfl, h1, pr⟩ := r
    have e1 := strs_of pr
    subst e1
    refine ⟨q, l, rfl, SqL.of (s _ _ h1), hl, fun ys p' pm so hp => ?_⟩
    have e2 : ys = sortS l := (sortS_eq pm (sortedS_pw so)).symm
    subst e2
    exact kk p' hp)
/-- xs[:b] of what comes of a change -/
theorem we_slTo {i : Int} {p2 : Pos} {H : Hp} {Q : VK} (h : WE X a σ H fun v H1 => ∃ G1, ∃ l : List α, Same G1 H1 ∧ rp G1 v l ∧ Ev X b σ G1 i ∧ ∀ G2 H2 w, Gr G1 H1 G2 H2 → rp G2 w (cutL l none (some i)) → Q w H2) : WE X (.Subscript a (.Slice none (some b) none p2) pos) σ H Q :=
  WE.of (pe_slice sl_list pe_we po_none (po_some pe_we)) (WE.mono h fun v H1 ⟨G1, l, s, r, hb, kk⟩ => hb G1 H1 _ (Same.refl _) s fun G3 H3 u g2 r2 => ⟨i, r2, rSl_data g2.s (rup g2.g r) fun G4 H4 w g3 r3 => kk _ _ _ (g2.trans g3) r3⟩)
/-- text[i], where i comes of a change -/
theorem we_ixS {H : Hp} {Q : VK} {z : Str} {j} (h : WE X b σ H fun u H1 => ∃ i : Nat, ∃ c, u = .int (i : Int) ∧ z.length ≤ sizeLine ∧ atI z.cps.toList (i : Int) = some c ∧ Q (.str ⟨#[c]⟩) H1) (hs : PlainIx b := by exact fun _ _ => rfl) : WE X (.Subscript (.Constant (.str z) j p) b pos) σ H Q :=
  WE.of (pe_ix ix_str pe_str pe_we hs) (WE.mono h fun u H1 ⟨i, c, e1, e2, e3, e4⟩ => ⟨z, _, c, rfl, e1, e2, e3, e4⟩)
/-- dict([]) -/
theorem we_dict0 {H : Hp} {Q : VK} {lp : Pos} (B : Bt X.mg) (k : ∀ l p, H l = none → H p = none → l ≠ p → Q (.ref p) (upd (upd H l (.lst [])) p (.dK []))) (hc : X.calm = true := by rfl) (hg : Gl X "dict" := by rfl) (hs : starEach [.List [] lp] X.env = (false, eval (.List [] lp) X.env) :: starEach [] X.env := by rfl) (hpl : (backTo pos (starEach [] X.env)).any (·.1) = false := by rfl) :
    WE X (.Call (.Name "dict" p) [.List [] lp] [] pos) σ H Q :=
  WE.of (pe_callTy (call_dictP hc) hg B.dict boot_dict' (pa_cons (pe_lst pa_nil) pa_nil hs) (by decide) (by decide) hs hpl) ⟨small_sz, fun l hl => ⟨l, [], [], rfl, SqL.of upd_same, .nil, fun p hp => by
    have hlp : l ≠ p := fun e => by subst e; rw [upd_same] at hp; cases hp
    rw [upd_ne (Ne.symm hlp)] at hp
    exact k l p hl hp hlp⟩⟩
end
end D1

namespace D1
open PySem L2 Rp
section
variable {α β γ δ : Type} [Rp α] [Rp β] [Rp γ] [Rp δ] {X : Cx} {a b c e tg : Expr} {σ : St} {G : Hp} {pos p q px : Pos} {rest : List Stmt}
/-- [elt for target in iter], where elt may write: I by the new list's place, the turn, what is in the list -/
theorem tlc_I {elt iter : Expr} {scope : Scope} {own : List (Str × Nat)} {l : List γ} {g : TG} {B : γ → Hp → St → St → Prop} {G1 H1 : Hp} {Q : VK} (I : Addr → Nat → List V → Hp → Hp → Prop) (s1 : Same G G1) (s2 : Same G1 H1)
    (hi : EI X tg iter σ G l) (hB : TgB g B) (hg : ∀ (s : Shared) (H : Hp) (C : Addr) (cl : List (Str × Addr)) (fp : List Addr), PG (BK X s H scope C cl fp) tg g)
    (h0 : ∀ G2 H2 D, Gr G1 H1 G2 H2 → H2 D = none → I D 0 [] G2 (upd H2 D (.lst [])))
    (he : ∀ D i c acc G2 H2, l[i]? = some c → Same G1 G2 → Same G2 H2 → G2 D = none → H2 D = some (.lst acc) → acc.length = i → H1 D = none → I D i acc G2 H2 → ∀ G3 H3 σ', Gr G2 H2 G3 H3 → B c G3 (wipe σ (own.map (·.2))) σ' → ∀ s H C cl fp,
      WE (BK X s H scope C cl fp) elt σ' H3 fun v H4 => ∃ G4, Same G3 G4 ∧ Same G4 H4 ∧ G4 D = none ∧ H4 D = some (.lst acc) ∧ I D (i + 1) (acc ++ [v]) G4 (upd H4 D (.lst (acc ++ [v]))))
    (k : ∀ D acc G2 H2, Same G1 G2 → Same G2 H2 → G2 D = none → H2 D = some (.lst acc) → H1 D = none → I D l.length acc G2 H2 → Q (.ref D) H2)
    (hw : ∀ c G' σ', B c G' (wipe σ (own.map (·.2))) σ' → wipe σ' (own.map (·.2)) = wipe σ (own.map (·.2))) (hUp : ∀ c G' G'' σ1 σ', Same G' G'' → B c G' σ1 σ' → B c G'' σ1 σ')
    (hz : l.length < sizeLine) :
    tLc (WI X tg iter) g (ATs X scope []) (AE X scope elt) (own.map (·.2)) σ H1 Q :=
    (hi G1 H1 _ s1 s2 fun J S Y G2 H2 g2 w hS hY D hD => by
      have gD : G2 D = none := g2.s.free hD
      have hD1 : H1 D = none := by
        cases e : H1 D with
        | none => rfl
        | some o => exact absurd hD (g2.d D (by rw [e]; exact fun z => nomatch z))
      refine lc_it (Qd := fun H => Q (.ref D) H) w (fun i H => ∃ G3 acc, Same G2 G3 ∧ Same G3 H ∧ G3 D = none ∧ H D = some (.lst acc) ∧ acc.length = i ∧ I D i acc G3 H) ?_ ?_ ?_ ?_
      · exact ⟨G2, [], Same.refl _, fun b o e => by rw [upd_ne (ne_of_none e gD)]; exact g2.s b o e, gD, upd_same, rfl, h0 G2 H2 D g2 hD⟩
      · rintro i H _ ⟨G3, acc, a1, a2, _⟩
        exact hS H (a1.trans a2)
      · rintro i x H H' hi' ⟨G3, acc, a1, a2, a3, a4, a5, a6⟩ y
        obtain ⟨c, G4, hc', g4, r⟩ := hY i H x H' hi' y G3 a1 a2
        refine hB c G4 H' x _ _ g4.s r fun σ' b => ⟨hw c G4 σ' b, ?_⟩
        intro s0 H0 C cl fp
        refine ETs.nil (X := BK X s0 H0 scope C cl fp) G4 H' _ (Same.refl _) g4.s fun G5 H5 g5 => ?_
        rw [if_pos rfl]
        intro s0 H0 C cl fp
        refine WE.mono (he D i c acc G3 H hc' (g2.g.trans a1) a2 a3 a4 a5 hD1 a6 G5 H5 σ' (g4.trans g5) ?_ s0 H0 C cl fp) fun v H6 ⟨G6, b1, b2, b3, b4, b5⟩ => ?_
        · exact hUp c G4 G5 _ _ g5.g b
        · refine ⟨acc, b4, by omega, G6, acc ++ [v], ((a1.trans g4.g).trans g5.g).trans b1, fun b' o e => ?_, b3, upd_same, by rw [List.length_append, a5]; rfl, b5⟩
          rw [upd_ne (ne_of_none e b3)]
          exact b2 b' o e
      · rintro H ⟨G3, acc, a1, a2, a3, a4, _, a5⟩
        exact k D acc G3 H (g2.g.trans a1) a2 a3 a4 hD1 a5)
/-- y = [elt for target in iter], elt may write, y a plain local name -/
theorem ws_setLcI (j : Nat) {y : Str} {py spos : Pos} {D : Ends} {elt iter : Expr} {scope : Scope} {own : List (Str × Nat)} {g : TG} {H : Hp} (hg : ∀ (s : Shared) (H : Hp) (C : Addr) (cl : List (Str × Addr)) (fp : List Addr), PG (BK X s H scope C cl fp) tg g)
    (h : tLc (WI X tg iter) g (ATs X scope []) (AE X scope elt) (own.map (·.2)) σ H fun v H1 => WS X rest D (σ.set j (some v)) H1) (hN : X.N.Nodup) (ok : BlkOk X.N X.env.scope scope own)
    (hsw : swapsWith (.ListComp elt [⟨tg, iter, [], 0⟩] scope pos) (some (.Name y py)) spos.line X.env = pure true := by rfl) (hc : X.calm = true := by rfl) (hy : X.N[j]? = some y := by rfl) (hyl : X.env.scope.names.lookup y = some .local := by rfl) (hs : ∀ x, foldedSetIterable iter X.env x = pure x := by intro _; rfl) :
    WS X (.Assign [.Name y py] (.ListComp elt [⟨tg, iter, [], 0⟩] scope pos) spos :: rest) D σ H :=
  WS.cons (ps_setLc (tt := ATs X scope []) (te := AE X scope elt) hc hN hy hyl hsw pi_wi ok hg (fun s H C cl fp => ⟨fun pins s1 σ' H' Q' I h => h s H C cl fp pins s1 I⟩) (fun s H C cl fp => ⟨fun pins s1 σ' H' Q' I h => h s H C cl fp pins s1 I⟩) hs) h
/-- for x in xs, where xs comes of a change -/
theorem ws_forL (j : Nat) {y : Str} {iter : Expr} {body : List Stmt} {G1 H1 : Hp} {D : Ends} (I : List γ → Nat → St → Hp → Hp → Prop)
    (h : WE X iter σ H1 fun v H2 => ∃ (l : List γ) (G2 : Hp), Same G1 G2 ∧ Same G2 H2 ∧ rp G2 v l ∧ I l 0 σ G2 H2)
    (hs : ∀ l i c σ1 G2 H2 v, l[i]? = some c → Same G1 G2 → Same G2 H2 → rp G2 v c → I l i σ1 G2 H2 →
      WS X body { nx := fun σ' H' => ∃ G', Same G2 G' ∧ Same G' H' ∧ I l (i + 1) σ' G' H', rt := D.rt, ct := fun σ' H' => ∃ G', Same G2 G' ∧ Same G' H' ∧ I l (i + 1) σ' G' H', bk := fun σ' H' => WS X rest D σ' H' } (σ1.set j (some v)) H2)
    (k : ∀ l σ1 G2 H2, Same G1 G2 → Same G2 H2 → I l l.length σ1 G2 H2 → WS X rest D σ1 H2) (hN : X.N.Nodup) (hj : X.N[j]? = some y := by rfl) (hx : Loc X.env.scope y := by first | exact Or.inl rfl | exact Or.inr rfl) (hp : PassesOwn (model X.prog X.w) X.A X.env X.xe := by exact PassesOwn.never) (hc : X.calm = true := by rfl)
    (hfn : X.fn y = true ∨ X.env.scope.names.lookup y = some .local := by first | exact .inl rfl | exact .inr rfl) (hso : ∀ x, foldedSetIterable iter X.env x = pure x := by intro _; rfl) : WS X (.For (.Name y px) iter body [] pos :: rest) D σ H1 :=
  WS.cons (ps_for hp hc (pi_list pe_we) (pg_name hN hj hx hfn) pss_ws hso) (WE.mono h fun v H2 ⟨l, G2, a1, a2, r, a3⟩ => by
    obtain ⟨q, xs, rfl, h1, pr⟩ := r
    have hl := pr.length
    refine ⟨q, rfl, ⟨xs, SqL.of (a2 _ _ h1)⟩, ?_⟩
    have w : Walk (Itl X.K q) l.length (fun H => SqL X.K H q xs) (YAt xs) := by rw [← hl]; exact walk_list
    exact for_it w (fun i σ' H' => ∃ G3, Same G2 G3 ∧ Same G3 H' ∧ I l i σ' G3 H') ⟨G2, Same.refl _, a2, a3⟩ (fun i σ' H' _ ⟨G3, b1, b2, b3⟩ => SqL.of (b2 _ _ (b1 _ _ h1)))
      (fun i x σ' H' H'' hi ⟨G3, b1, b2, b3⟩ y => by
        obtain ⟨rfl, y⟩ := y
        obtain ⟨d, e1, e2⟩ := paired_at pr y
        have h := hs l i d σ' G3 H'' x e1 (a1.trans b1) b2 (rup b1 e2) b3
        show WS X body _ (σ'.set j (some x)) H''
        intro pins s Iv
        refine thn (h pins s Iv) fun f s' q => ?_
        match f, q with
        | .next, ⟨σ3, H3, I3, G5, c1, c2, c3⟩ => exact ⟨σ3, H3, I3, G5, b1.trans c1, c2, c3⟩
        | .cont, ⟨σ3, H3, I3, G5, c1, c2, c3⟩ => exact ⟨σ3, H3, I3, G5, b1.trans c1, c2, c3⟩
        | .brk, ⟨σ3, H3, I3, q⟩ => exact ⟨σ3, H3, I3, q⟩
        | .ret u, ⟨v, σ3, H3, I3, rv, q⟩ => exact ⟨v, σ3, H3, I3, rv, q⟩)
      fun σ' H' ⟨G3, b1, b2, b3⟩ => k l σ' G3 H' (a1.trans b1) b2 b3)
theorem ws_asg3 (i j l : Nat) {G1 H1 : Hp} {D : Ends} {x y z : Str} {px py pz pt : Pos} {kt} {t : T3 α β γ} (s1 : Same G G1) (s2 : Same G1 H1) (h : Ev X e σ G t) (k : ∀ G2 H2 u w z, Gr G1 H1 G2 H2 → rp G2 u t.a → rp G2 w t.b → rp G2 z t.c → WS X rest D (((σ.set i (some u)).set j (some w)).set l (some z)) H2)
    (hN : X.N.Nodup) (hc : X.calm = true := by rfl) (hi : X.N[i]? = some x := by rfl) (hj : X.N[j]? = some y := by rfl) (hl : X.N[l]? = some z := by rfl) (hx : Loc X.env.scope x := by first | exact Or.inl rfl | exact Or.inr rfl) (hy : Loc X.env.scope y := by first | exact Or.inl rfl | exact Or.inr rfl) (hz : Loc X.env.scope z := by first | exact Or.inl rfl | exact Or.inr rfl)
    (fx : X.fn x = true ∨ X.env.scope.names.lookup x = some .local := by first | exact .inl rfl | exact .inr rfl) (fy : X.fn y = true ∨ X.env.scope.names.lookup y = some .local := by first | exact .inl rfl | exact .inr rfl) (fz : X.fn z = true ∨ X.env.scope.names.lookup z = some .local := by first | exact .inl rfl | exact .inr rfl)
    (h1 : (assignEach [.Name x px, .Name y py, .Name z pz] X.env).map (·.2) = assign (.Name x px) X.env :: (assignEach [.Name y py, .Name z pz] X.env).map (·.2) := by rfl) (h2 : (assignEach [.Name y py, .Name z pz] X.env).map (·.2) = assign (.Name y py) X.env :: (assignEach [.Name z pz] X.env).map (·.2) := by rfl)
    (h3 : (assignEach [.Name z pz] X.env).map (·.2) = assign (.Name z pz) X.env :: (assignEach [] X.env).map (·.2) := by rfl)
    (hn : (assignEach [.Name x px, .Name y py, .Name z pz] X.env).length = 3 := by rfl) (hst : (assignEach [.Name x px, .Name y py, .Name z pz] X.env).findIdx? (·.1) = none := by rfl)
    (hs : swapsWithSole [.Tuple [.Name x px, .Name y py, .Name z pz] kt pt] e pos.line X.env = pure false := by rfl) (hw : swappedStores [.Tuple [.Name x px, .Name y py, .Name z pz] kt pt] e X.env = pure none := by rfl) (ha : (assignEach [.Tuple [.Name x px, .Name y py, .Name z pz] kt pt] X.env).map (·.2) = [assign (.Tuple [.Name x px, .Name y py, .Name z pz] kt pt) X.env] := by rfl) :
    WS X (.Assign [.Tuple [.Name x px, .Name y py, .Name z pz] kt pt] e pos :: rest) D σ H1 :=
  WS.cons (ps_asg pe_we (pg_three hc hN hi hj hl hx hy hz fx fy fz h1 h2 h3 hn hst) hs hw ha) (h G1 H1 _ s1 s2 fun G2 H2 v g r => g_three g.s r fun u w z r1 r2 r3 => k G2 H2 u w z g r1 r2 r3)
/-! ### conditions with changes -/
theorem wt_not {H : Hp} {Q : Bool → Hp → Prop} (h : WT X e σ H fun b H1 => Q (!b) H1) : WT X (.UnaryOp .Not e pos) σ H Q := WT.of (pt_not pt_wt) h
theorem wt_val {H : Hp} {Q : Bool → Hp → Prop} (h : WE X e σ H fun v H1 => ∃ z, v = .bl z ∧ Q z H1) (he : ∀ whole, isTrue e X.env whole = (do let v ← whole; standAt e.pos; holding [v] (truthy v)) := by intro _; rfl) : WT X e σ H Q :=
  WT.of (pt_val pe_we he) (WE.mono h fun v H1 ⟨z, e1, q⟩ => ⟨z, e1, q⟩)
theorem wt_or2 {H : Hp} {Q : Bool → Hp → Prop} (h : WT X a σ H fun y H1 => if y = true then Q true H1 else WT X b σ H1 Q) : WT X (.BoolOp .Or [a, b] pos) σ H Q := fun pins s I => WW.of (pw_or pt_wt (pw_or1 pt_wt)) h _ pins s I
/-! ### the script: a list that is tracked, frozen or the module's -/
structure Scr (K : PySem.W.Frag) where
  l : List Int
instance {K : PySem.W.Frag} : Rp (Scr K) := ⟨fun H v t => ∃ p, v = .ref p ∧ SqL K H p (t.l.map V.int), fun s ⟨p, e, h⟩ => ⟨p, e, s.seq h⟩⟩
theorem Ev.lenQ {t : Scr X.K} (B : Bt X.mg) (h : Ev X e σ G t) (hg : Gl X "len" := by rfl) (hs : starEach [e] X.env = (false, eval e X.env) :: starEach [] X.env := by rfl) (hpl : (backTo pos (starEach [] X.env)).any (·.1) = false := by rfl) : Ev X (.Call (.Name "len" p) [e] [] pos) σ G ((t.l.length : Nat) : Int) :=
  Ev.b1 call_len boot_len' (fun G H v Q s r k => by
    obtain ⟨q, rfl, h1⟩ := r
    exact ⟨_, t.l.length, rfl, .inl ⟨_, s.seq h1, by simp⟩, k _ _ _ (GrM.refl s) rfl⟩) B.len h hg (by decide) (by decide) hs hpl
theorem Ev.sl2Q {t : Scr X.K} {i j : Int} {p2 : Pos} (h : Ev X e σ G t) (ha : Ev X a σ G i) (hb : Ev X b σ G j) : Ev X (.Subscript e (.Slice (some a) (some b) none p2) pos) σ G (cutL t.l (some i) (some j)) := fun G1 H1 Q s1 s2 k =>
  WE.of (pe_slice sl_list pe_we (po_some pe_we) (po_some pe_we)) (h G1 H1 _ s1 s2 fun G2 H2 v g r => ha G2 H2 _ (s1.trans g.g) g.s fun G3 H3 u g2 r2 => ⟨i, r2, hb G3 H3 _ (s1.trans (g.trans g2).g) g2.s fun G4 H4 u2 g3 r3 => ⟨j, r3, by
    obtain ⟨q, rfl, h1⟩ := rup (g2.trans g3).g r
    refine ⟨q, _, rfl, g3.s.seq h1, fun p hp => ?_⟩
    have g4 := Gr.new (o := .lst (cutV (t.l.map V.int) (some i) (some j))) g3.s hp
    refine k _ _ _ (((g.trans g2).trans g3).trans g4) ⟨p, _, rfl, upd_same, ?_⟩
    have e1 : cutV (t.l.map V.int) (some i) (some j) = (cutL t.l (some i) (some j)).map V.int := by
      unfold cutV cutL
      rw [List.length_map, List.map_take, List.map_drop]
    rw [e1]
    exact ints_to _⟩⟩)
end
end D1

namespace D1
open PySem PySem.Spec L2 Rp PyProof.Rows
/-! ### defs that are called while nothing is being shown: what repr tells of lists and tuples is known there alone -/
structure FnG (P : Program) (w : World) (K : PySem.W.Frag) (mg : Str → Option Value) (base : Heap) (k : Nat) (f : Addr) (fd : FuncData) (ps : List Str) (sp : Sp) : Prop where
  len : ∀ (ys : List V) (I : Hp) (R : VK) (Z : XK), sp ys I R Z → ys.length = ps.length
  run : ∀ (B : Around) (out : List Env) (t : Shared) (I : Hp) (as : Args) (xs : List Value) (ys : List V) (R : VK) (Z : XK), B.guards = some [] → Room k B → Env0 P w K mg base B out t I → BindsTo t fd as (ps.zip xs) → Vals ys xs → sp ys I R Z →
    codeAny (model P w) B (.call (.ref f) as) (CR C8.CX0 out P w I t R Z) t
section
variable {P : Program} {w : World} {K : PySem.W.Frag} {mg : Str → Option Value} {base : Heap}
/-- by its body -/
theorem FnG.of {x qual : Str} {st : Stmt} {f : Addr} {fd : FuncData} {N ps : List Str} {k : Nat} {sp : Sp} (F : C8.Fun K x qual st f fd) (S : FnScope N ps (C8.fnScope st)) (hl : ∀ (ys : List V) (I : Hp) (R : VK) (Z : XK), sp ys I R Z → ys.length = ps.length)
    (body : ∀ (cdv : Value) (B : Around) (out : List Env) (t : Shared) (I : Hp) (ys : List V) (R : VK) (Z : XK), B.guards = some [] → Room k (B.deeper (envOfC qual (C8.fnScope st) t.heap.objs.size f cdv)) → sp ys I R Z →
      WS (cxOf C8.CX0 P w K mg base N qual (C8.fnScope st) f cdv B out t I Z).nox (C8.fnBody st) { nx := fun _ J => R .non J, rt := R } (start N ys) I) : FnG P w K mg base (k + 1) f fd ps sp := by
  obtain ⟨c1, c2, c3, c4, c5, c6, c7, cdv, c8, c9, rfl, look, code⟩ := F.ex
  refine ⟨hl, fun B out t I as xs ys R Z noG room e0 bind rel ask => ?_⟩
  have inK : K.In t.heap := e0.mod.kin.keeps fun b o e => (e0.bs b o e).1
  have noL : t.heap.NoLimit := e0.mod.nolimit.keeps fun b o e => (e0.bs b o e).1
  refine codeAny_call_function room.depth (inK _ _ look) rfl S.co S.gen rfl (PySem.W.codeRec_of inK code) (bind _ _ _ _ ?_)
  refine wpAny_newFunctionEnv_cells S.kind (fun y hy => ?_) fun env same t1 st1 => ?_
  · obtain ⟨n, v⟩ := y
    rcases S.par n (List.of_mem_zip hy).1 with here | here
    · exact Or.inl here
    · exact Or.inr ⟨here, PySem.W.cellsFrom_some _ _ _ (Or.inl here)⟩
  · subst same
    have inv : Inv (cxOf C8.CX0 P w K mg base N qual (C8.fnScope st) f cdv B out t I Z) [] (start N ys) I t1 := inv_start S room.hd e0 (hl _ _ _ _ ask) rel st1
    have run := (pss_ws.nox (X := cxOf C8.CX0 P w K mg base N qual (C8.fnScope st) f cdv B out t I Z)).run [] t1 (start N ys) I _ inv (body cdv B out t I ys R Z noG (room.deeper _) ask)
    refine ⟨noL.keeps st1.toInCall.keep, codeAny_func (wpAny_mono run (fun fl t2 ends => ?_) fun _ _ h => h)⟩
    have close : ∀ {σ2 : L2.St} {J : Hp} {v : V} {u : Value}, Inv (cxOf C8.CX0 P w K mg base N qual (C8.fnScope st) f cdv B out t I Z) [] σ2 J t2 → RelV v u → R v J → CE out P w I t R u t2 := fun {σ2 J v u} j rv q => ⟨v, J, j.os, j.bare, j.base, j.hok, rv, q⟩
    match fl, ends with
    | .ret u, ⟨v, σ2, J, j, rv, q⟩ => exact close j rv q
    | .next, ⟨σ2, J, j, q⟩ => exact close (v := V.non) (u := Value.none) j rfl q
    | .brk, ⟨_, _, _, q⟩ => exact q.elim
    | .cont, ⟨_, _, _, q⟩ => exact q.elim
theorem FnG.mono {f : Addr} {fd : FuncData} {ps : List Str} {j k : Nat} {sp : Sp} (F : FnG P w K mg base j f fd ps sp) (h : j ≤ k) : FnG P w K mg base k f fd ps sp := ⟨F.len, fun B out t I as xs ys R Z g r => F.run B out t I as xs ys R Z g (r.mono h)⟩
/-- a def that may be called by its name -/
structure CalG (P : Program) (w : World) (K : PySem.W.Frag) (mg : Str → Option Value) (base : Heap) (k : Nat) (x : Str) (sp : Sp) : Prop where
  ex : ∃ (f : Addr) (fd : FuncData) (ps : List Str), FnG P w K mg base k f fd ps sp ∧ mg x = some (.ref f) ∧ PySem.W.keepIn K (.ref f) = true ∧ Binds K fd ps []
theorem CalG.of {x : Str} {st : Stmt} {f : Addr} {fd : FuncData} {N ps : List Str} {k : Nat} {sp : Sp} (D : C8.Def K mg x st f fd) (b : Binds K fd ps []) (S : FnScope N ps (C8.fnScope st)) (hl : ∀ (ys : List V) (I : Hp) (R : VK) (Z : XK), sp ys I R Z → ys.length = ps.length)
    (body : ∀ (cdv : Value) (B : Around) (out : List Env) (t : Shared) (I : Hp) (ys : List V) (R : VK) (Z : XK), B.guards = some [] → Room k (B.deeper (envOfC x (C8.fnScope st) t.heap.objs.size f cdv)) → sp ys I R Z →
      WS (cxOf C8.CX0 P w K mg base N x (C8.fnScope st) f cdv B out t I Z).nox (C8.fnBody st) { nx := fun _ J => R .non J, rt := R } (start N ys) I) : CalG P w K mg base (k + 1) x sp := ⟨f, fd, ps, FnG.of D.fn S hl body, D.mgf, D.kp, b⟩
end
section
variable {X : Cx} {x : Str} {k j : Nat} {e : Expr} {es : List Expr} {t : TA} {p pos : Pos} {sp : Sp}
/-- x(e, ..) -/
theorem pe_cG (c : CalG X.prog X.w X.K X.mg X.base k x sp) (noG : X.A.guards = some []) (room : Room j X.A) (le : k ≤ j) (hg : Gl X x) (args : PA X (e :: es) t)
    (nd : (x == ("__debug__" : Str)) = false := by decide) (st : starEach (e :: es) X.env = (false, eval e X.env) :: starEach es X.env := by rfl) (pl : (backTo pos (starEach es X.env)).any (·.1) = false := by rfl) : PE X (.Call (.Name x p) (e :: es) [] pos) (tCall sp [] C8.E0 t) := by
  obtain ⟨f, fd, ps, F, named, kept, b⟩ := c.ex
  refine ⟨fun pins s0 σ I R inv ask => wpAny_Call_Name_kw (ld_glob inv hg named ?_ nd)⟩
  refine PySem.W.callWith_K (h₀ := X.base) inv.ok.mod.kin kept (thn (args.run pos pins s0 σ I _ inv ask) fun xs s1 h1 => ?_) st pl
  obtain ⟨ys, J, inv1, rel, q⟩ := h1
  refine ⟨inv1.kIn, ?_⟩
  have q' : sp ys J R C8.E0 := by
    have h : sp (ys ++ []) J R C8.E0 := q
    rwa [List.append_nil] at h
  have hlen : xs.length = ps.length := by rw [← rel.length]; exact F.len _ _ _ _ q'
  have hb := b s1 xs inv1.kIn (by rw [List.append_nil]; exact hlen)
  rw [List.append_nil] at hb
  refine wpAny_call (codeAny_mono (F.run X.A X.stack s1 J ⟨xs, []⟩ xs ys R C8.E0 noG (room.mono le) inv1.env0 hb rel q') fun res s2 done => ?_)
  match res, done with
  | .error er, h => exact (show False from h).elim
  | .ok (.ret u), h => exact inv1.after h
  | .ok .next, h => exact (show False from h).elim
  | .ok .brk, h => exact (show False from h).elim
  | .ok .cont, h => exact (show False from h).elim
end
end D1

namespace D1
open PySem L2 Rp Da
/-! ### repr of data, where nothing is being shown -/
def showD {α : Type} [Rp α] [Da α] (a : α) : Str := (toD a).shown
def rShow (α : Type) [Rp α] [Da α] : List V → Hp → VK → Prop := fun vs H Q => ∃ G v, ∃ d : α, vs = [v] ∧ Same G H ∧ rp G v d ∧ lay d ∧ (toD d).showable = true ∧ (showD d).length ≤ sizeLine ∧ Q (.str (showD d)) H
section
variable {α : Type} [Rp α] [Da α] {X : Cx} {e : Expr} {σ : St} {G : Hp} {p pos : Pos}
theorem cr_show (noG : X.A.guards = some []) (hu : X.A.units + (dep α + 1) < cLine) (hd : ∀ a : α, (∃ xs, toD a = .list xs) ∨ (∃ xs, toD a = .tuple xs) ∨ ∃ z, toD a = .str z) : CallR X (.builtin "repr") (rShow α) := by
  intro pins s σ H vs us Q I r h
  obtain ⟨G, v, d, rfl, sG, rd, ld, sh, hz, q⟩ := h
  obtain ⟨u, rfl, ru⟩ := vals1 r
  obtain ⟨as, rs⟩ := Dp.reads I (toD d) v u (dp (rup sG rd)) ru
  have nod : (toD d).hasDict = true → sysModules ∉ as := fun hh => by rw [PyData.hasDict_of_canLay _ (can d ld)] at hh; cases hh
  have hdep := dpt d
  have fin : ∀ {h' : Heap} (t : Tok) (tk : Nat), (∀ b o, s.heap.get? b = some o → h'.get? b = some o) → EP X pins σ Q (.str (toD d).shown t) { s with heap := h', toks := tk } := fun t tk k => ⟨.str (showD d), H, I.kept k, ⟨t, rfl⟩, q⟩
  rcases hd d with ⟨xs, ed⟩ | ⟨xs, ed⟩ | ⟨z, ed⟩
  · have rs2 := rs
    rw [ed] at rs2
    cases rs2
    exact PySem.repr_of_reads' rs sh nod noG (by omega) (fun _ _ e => e) (fun h' t tk k => fin t tk k) hz
  · have rs2 := rs
    rw [ed] at rs2
    cases rs2
    exact PySem.repr_of_reads' rs sh nod noG (by omega) (fun _ _ e => e) (fun h' t tk k => fin t tk k) hz
  · have hz2 : (reprText z).length ≤ sizeLine := by
      unfold showD at hz
      rw [ed] at hz
      simpa only [PyData.shown] using hz
    have f2 := fin (h' := s.heap) s.toks (s.toks + 1) (fun _ _ e => e)
    have rs2 := rs
    rw [ed] at rs2 f2
    cases rs2
    simp only [PyData.shown] at f2
    exact PySem.P.repr_of_str f2 hz2
theorem Ev.repr {d : α} (noG : X.A.guards = some []) (hu : X.A.units + 64 < cLine) (hm : X.mg "repr" = none) (h : Ev X e σ G d) (ld : lay d) (sh : (toD d).showable = true) (hz : (showD d).length ≤ sizeLine) (hd : ∀ a : α, (∃ xs, toD a = .list xs) ∨ (∃ xs, toD a = .tuple xs) ∨ ∃ z, toD a = .str z) (h62 : dep α ≤ 62 := by decide)
    (hg : Gl X "repr" := by rfl) (hs : starEach [e] X.env = (false, eval e X.env) :: starEach [] X.env := by rfl) (hpl : (backTo pos (starEach [] X.env)).any (·.1) = false := by rfl) : Ev X (.Call (.Name "repr" p) [e] [] pos) σ G (showD d) :=
  Ev.b1 (cr_show noG (by omega) hd) (by decide +kernel) (fun G H v Q s r k => ⟨G, v, d, rfl, s, r, ld, sh, hz, k _ _ _ (GrM.refl s) rfl⟩) hm h hg (by decide) (by decide) hs hpl
end
end D1

namespace D1
open PySem PySem.Spec L2 Rp PyProof.Rows
/-! ### the end, for a law of the kind FnG -/
abbrev LstO (vs : List Value) : Obj := { cls := .type "list", data := .seq vs.toArray }
/-- the heap ahead of the law: the script alone, unless it is the module's -/
def scrH (K : PySem.W.Frag) (a : Addr) (vs : List Value) (ns : List Int) : Hp := fun b => if b = a ∧ K.lookup a = none then some (.frz (LstO vs) (.lst (ns.map V.int))) else none
section
variable {K : PySem.W.Frag} {a : Addr} {vs : List Value} {ns : List Int}
theorem scrH_at {b : Addr} (h : ¬ scrH K a vs ns b = none) : b = a ∧ K.lookup a = none := by
  unfold scrH at h
  split at h
  · assumption
  · exact absurd rfl h
theorem scrH_some {b : Addr} {u : HO} (h : scrH K a vs ns b = some u) : b = a ∧ K.lookup a = none ∧ u = .frz (LstO vs) (.lst (ns.map V.int)) := by
  have h1 := scrH_at (K := K) (a := a) (vs := vs) (ns := ns) (b := b) (by rw [h]; exact fun z => nomatch z)
  unfold scrH at h
  rw [if_pos h1] at h
  exact ⟨h1.1, h1.2, (Option.some.inj h).symm⟩
theorem scrH_seq {hp : Heap} (inK : K.In hp) (at_ : hp.get? a = some (LstO vs)) (len : ns.length ≤ sizeLine) (are : IntsAre vs ns) : SqL K (scrH K a vs ns) a (ns.map V.int) := by
  cases e : K.lookup a with
  | none => exact Or.inl (Or.inr ⟨LstO vs, if_pos ⟨rfl, e⟩⟩)
  | some o =>
    have h := inK a o e
    rw [at_] at h
    cases h
    refine Or.inr ⟨_, vs.toArray, _, e, rfl, rfl, rfl, ?_, ?_⟩
    · rw [List.size_toArray, are.length]; exact len
    · have := vals_ints are
      simpa using this
/-- what is not the script's stays below the law -/
theorem below_at {hp : Heap} (at_ : hp.get? a = some (LstO vs)) {b : Addr} {o : Obj} (hb : hp.get? b = some o) (hne : ∀ w n, o.data ≠ .seq w n) : (hidT hp (scrH K a vs ns)).get? b = some o := by
  refine hidT_get hb ?_
  cases e : scrH K a vs ns b with
  | none => rfl
  | some u =>
    obtain ⟨rfl, _, _⟩ := scrH_some e
    rw [at_] at hb
    cases hb
    exact absurd rfl (hne _ _)
theorem below_ns {hp : Heap} (at_ : hp.get? a = some (LstO vs)) {b : Addr} {m : Str → Option Value} (h : hp.Ns b m) : (hidT hp (scrH K a vs ns)).Ns b m := by
  obtain ⟨o, es, ep, h1, h2, h3⟩ := h
  exact ⟨o, es, ep, below_at at_ h1 (fun w n h => by rw [h2] at h; cases h), h2, h3⟩
theorem below_K {hp : Heap} (inK : K.In hp) : K.In (hidT hp (scrH K a vs ns)) := fun b o e => hidT_get (inK b o e) (by
  cases q : scrH K a vs ns b with
  | none => rfl
  | some u =>
    obtain ⟨rfl, h2, _⟩ := scrH_some q
    rw [h2] at e
    cases e)
end
theorem law_callG {P : Program} {w : World} {K : PySem.W.Frag} {mg mb : Str → Option Value} {k : Nat} {fa a : Addr} {fd : FuncData} {x : Str} {sp : Sp} {t : Shared} {vs : List Value} {ns : List Int} (inK : K.In t.heap) (gl : t.heap.Ns mainGlobals mg) (bl : t.heap.Ns builtinsNs mb) (bb : ∀ x : Str, x ≠ "__name__" → mb x = bootBuiltins x)
    (noL : t.heap.NoLimit) (noGen : t.gens = #[]) (at_ : t.heap.get? a = some (LstO vs)) (are : IntsAre vs ns) (len : ns.length ≤ sizeLine) (room : Room k callerA) (F : ∀ base : Heap, K.In base → base.Ns mainGlobals mg → FnG P w K mg base k fa fd [x] sp) (bind : ∀ (s : Shared) (u : Value), BindsTo s fd ⟨[u], []⟩ [(x, u)])
    (ask : ∀ H : Hp, SqL K H a (ns.map V.int) → sp [.ref a] H (fun v _ => v = .bl true) C8.E0) : codeAny (model P w) callerA (.call (.ref fa) ⟨[.ref a], []⟩) (fun r t' => r = .ok (.ret (.bool true)) ∧ OldK t.heap t'.heap ∧ t'.os = t.os ∧ AllBare t'.gens) t := by
  have okH : HOk P w (scrH K a vs ns) t.heap := fun b u e => by
    obtain ⟨rfl, _, rfl⟩ := scrH_some e
    exact ⟨at_, by rw [List.length_map]; exact len, vs, _, vals_ints are, at_⟩
  have md : Mod K mg (hidT t.heap (scrH K a vs ns)) := ⟨below_K inK, below_ns at_ gl, ⟨mb, below_ns at_ bl, bb⟩, by obtain ⟨mc, h1, h2⟩ := noL; exact ⟨mc, below_ns at_ h1, h2⟩⟩
  have env : Env0 P w K mg (hidT t.heap (scrH K a vs ns)) callerA [] t (scrH K a vs ns) := ⟨rfl, md, fun b o e => of_hidT e, Nat.le_of_eq (hidT_size _ _), trivial, fun b hb => (List.not_mem_nil (show b ∈ ([] : List Addr) from hb)).elim, okH, AllBare.of_eq noGen⟩
  have run := (F _ (below_K inK) (below_ns at_ gl)).run callerA [] t (scrH K a vs ns) ⟨[.ref a], []⟩ [.ref a] [.ref a] _ _ rfl room env (bind t (.ref a)) (.cons rfl .nil) (ask _ (scrH_seq inK at_ len are))
  refine codeAny_mono run fun r t' done => ?_
  match r, done with
  | .error er, h => exact (show False from h).elim
  | .ok .next, h => exact (show False from h).elim
  | .ok .brk, h => exact (show False from h).elim
  | .ok .cont, h => exact (show False from h).elim
  | .ok (.ret u), ⟨v, H', os, bare, un, ok', rv, q⟩ =>
    have q' : v = .bl true := q
    subst q'
    obtain rfl : u = Value.bool true := rv
    refine ⟨rfl, OldK.of_keep fun b o hb => ?_, os, bare⟩
    cases e : scrH K a vs ns b with
    | none => exact un.keep b o hb e (fun z => (List.not_mem_nil (show b ∈ ([] : List Addr) from z)).elim) (by simp)
    | some y =>
      obtain ⟨rfl, _, rfl⟩ := scrH_some e
      obtain ⟨h2, _⟩ := ok' b _ (un.frzs b _ _ e)
      rw [at_] at hb
      cases hb
      exact h2
theorem walk_ofG {l : PySem.W.OpenLaw} {n k : Nat} {q : Program} {loose : List Str} {XP : (Str → Option Value) → Heap → Prop} {YP : World → Heap → Prop} {d : DefRec} {K : Params → PySem.W.Frag} {sp : World → Sp} {x : Str} (most : l.most = some n) (n63 : n ≤ sizeLine) (noD : d.params.defaults = []) (room : Room k callerA)
    (inK : ∀ (w : World) (h : Heap), YP w h → (K w.params).In h)
    (F : ∀ (w : World) (mg : Str → Option Value) (fa : Addr) (h : Heap), (K w.params).In h → h.Ns mainGlobals mg → mg d.name = some (.ref fa) → ∃ fd : FuncData, (∀ (s : Shared) (u : Value), BindsTo s fd ⟨[u], []⟩ [(x, u)]) ∧ ∀ base : Heap, (K w.params).In base → base.Ns mainGlobals mg → FnG l.prog w (K w.params) mg base k fa fd [x] (sp w))
    (ask : ∀ (w : World) (H : Hp) (a : Addr) (ns : List Int), ns.length ≤ n → SqL (K w.params) H a (ns.map V.int) → sp w [.ref a] H (fun v _ => v = .bl true) C8.E0) : PySem.W.WalkO q loose XP YP l.row.toRowW d [] (fun f vs => PySem.call f vs) := by
  refine Att.attach_call most noD ?_
  intro w t0 t mg mb fa o pm cd doc a vs ns ground yes hf hd hcode hmg hobj hints hlen noGen
  obtain ⟨fd, bind, good⟩ := F w mg fa _ (inK w _ yes) ground.T.g hmg
  exact law_callG (inK w _ yes) ground.T.g ground.T.b ground.T.builtins ground.T.nolimit noGen hobj hints (Nat.le_trans hlen n63) room good bind fun H hS => ask w H a ns hlen hS
end D1

namespace D1
open PySem L2 Rp
/-! ### data all of whose objects are new -/
/-- what G has beside H0 -/
def dif (G H0 : Hp) : Hp := fun b => match H0 b with | none => G b | some _ => none
theorem dif_none {G H0 : Hp} {b : Addr} (h : H0 b = none) : dif G H0 b = G b := by unfold dif; rw [h]
theorem dif_at {G H0 : Hp} {b : Addr} {o : HO} (h : dif G H0 b = some o) : H0 b = none ∧ G b = some o := by
  unfold dif at h
  cases e : H0 b with
  | none => rw [e] at h; exact ⟨rfl, h⟩
  | some u => rw [e] at h; cases h
theorem dif_same {G H0 : Hp} : Same (dif G H0) G := fun b o e => (dif_at e).2
theorem dif_up {G G' H0 : Hp} (s : Same G G') : Same (dif G H0) (dif G' H0) := fun b o e => by rw [dif_none (dif_at e).1]; exact s _ _ (dif_at e).2
/-- new beside more is new beside less -/
theorem dif_less {G H0 H1 : Hp} (h : ∀ b, H0 b ≠ none → H1 b ≠ none) : Same (dif G H1) (dif G H0) := fun b o e => by
  obtain ⟨h1, h2⟩ := dif_at e
  have : H0 b = none := by
    cases q : H0 b with
    | none => rfl
    | some u => exact absurd h1 (h b (by rw [q]; exact fun z => nomatch z))
  rw [dif_none this]
  exact h2
theorem GrM.difs {M : Addr → Prop} {G H G1 H1 G2 : Hp} (g : GrM M G H G1 H1) : Same (dif G2 H1) (dif G2 H) := dif_less g.d
section
variable {α β γ δ : Type} [Rp α] [Rp β] [Rp γ] [Rp δ] {X : Cx} {a b c e : Expr} {σ : St} {G : Hp} {pos p : Pos} {rest : List Stmt} {k j : Nat} {x : Str}
def EvF (X : Cx) (e : Expr) (σ : St) (G : Hp) (a : α) : Prop := ∀ G1 H1 (Q : VK), Same G G1 → Same G1 H1 → (∀ G2 H2 v, Gr G1 H1 G2 H2 → rp (dif G2 H1) v a → Q v H2) → WE X e σ H1 Q
theorem EvF.ev {d : α} (h : EvF X e σ G d) : Ev X e σ G d := fun G1 H1 Q s1 s2 k => h G1 H1 Q s1 s2 fun G2 H2 v g r => k G2 H2 v g (rup dif_same r)
theorem EvF.eq {d d' : α} (h : EvF X e σ G d) (q : d = d') : EvF X e σ G d' := q ▸ h
theorem EvF.ap {G1 H1 : Hp} {d : α} {Q : VK} (s2 : Same G1 H1) (h : EvF X e σ G1 d) (k : ∀ G2 H2 v, Gr G1 H1 G2 H2 → rp (dif G2 H1) v d → Q v H2) : WE X e σ H1 Q := h G1 H1 Q (Same.refl _) s2 k
/-- atoms are new -/
theorem rp_str {G : Hp} {v : V} {z : Str} (h : rp G v z) (G' : Hp) : rp G' v z := h
theorem EvF.str {z : Str} (h : Ev X e σ G z) : EvF X e σ G z := fun G1 H1 Q s1 s2 k => h G1 H1 Q s1 s2 fun G2 H2 v g r => k G2 H2 v g r
theorem EvF.non {j} : EvF X (.Constant .none j pos) σ G (Option.none : Option α) := fun G1 H1 Q s1 s2 k => WE.of pe_non (k G1 H1 _ (GrM.refl s2) rfl)
theorem EvF.opt {d : α} (h : EvF X e σ G d) : EvF X e σ G (Option.some d) := fun G1 H1 Q s1 s2 k => h G1 H1 Q s1 s2 fun G2 H2 v g r => k G2 H2 v g r
theorem EvF.unopt {d : α} (h : EvF X e σ G (Option.some d)) : EvF X e σ G d := fun G1 H1 Q s1 s2 k => h G1 H1 Q s1 s2 fun G2 H2 v g r => k G2 H2 v g r
theorem new_lst {G1 H1 G2 H2 : Hp} {p : Addr} {o : HO} (g : Gr G1 H1 G2 H2) (hp : H2 p = none) : dif (upd G2 p o) H1 p = some o := by rw [dif_none (g.fresh hp)]; exact upd_same
theorem EvF.nil : EvF X (.List [] pos) σ G ([] : List α) := fun G1 H1 Q s1 s2 k => WE.of (pe_lst pa_nil) ⟨small_sz, fun q hq =>
  k _ _ _ (Gr.new (o := .lst []) s2 hq) ⟨q, [], rfl, new_lst (GrM.refl s2) hq, .nil⟩⟩
theorem EvF.split {z y : Str} {apos : Pos} (ha : Ev X a σ G z) (hb : Ev X b σ G y) (hy : (y.length == 0) = false) (hz : z.length + 2 ≤ sizeLine) (hs : starEach [b] X.env = [(false, eval b X.env)] := by rfl) (hbase : attributeBase a "split" X.env (eval a X.env) = eval a X.env := by rfl) (hline : (apos.endLine == pos.line) = true := by rfl) :
    EvF X (.Call (.Attribute a "split" apos) [b] [] pos) σ G (Txt.split z y) := fun G1 H1 Q s1 s2 k =>
  WE.of (pe_split pe_we pe_we hs hbase hline) (ha G1 H1 _ s1 s2 fun G2 H2 v g r => by
    cases r
    refine ⟨⟨z, rfl⟩, hb G2 H2 _ (s1.trans g.g) g.s fun G3 H3 u g2 r2 => ?_⟩
    cases r2
    refine ⟨z, y, rfl, rfl, hy, hz, fun p hp => ?_⟩
    have g12 := g.trans g2
    exact k _ _ _ (g12.trans (Gr.new (o := .lst ((Txt.split z y).map V.str)) g2.s hp)) ⟨p, _, rfl, new_lst g12 hp, strs_to _⟩)
theorem EvF.tup3 {d1 : α} {d2 : β} {d3 : γ} {z} (ha : EvF X a σ G d1) (hb : EvF X b σ G d2) (hc : EvF X c σ G d3) (hs : starEach [a, b, c] X.env = (false, eval a X.env) :: starEach [b, c] X.env := by rfl) (hs1 : starEach [b, c] X.env = (false, eval b X.env) :: starEach [c] X.env := by rfl) (hs2 : starEach [c] X.env = (false, eval c X.env) :: starEach [] X.env := by rfl) :
    EvF X (.Tuple [a, b, c] z pos) σ G (T3.mk d1 d2 d3) := fun G1 H1 Q s1 s2 k =>
  WE.of (pe_tup (pa_cons pe_we (pa_cons pe_we (pa_cons pe_we pa_nil hs2) hs1) hs)) (ha G1 H1 _ s1 s2 fun G2 H2 v g r => hb G2 H2 _ (s1.trans g.g) g.s fun G3 H3 u g2 r2 => hc G3 H3 _ (s1.trans (g.trans g2).g) g2.s fun G4 H4 t g3 r3 => ⟨small_sz (n := 3), fun q hq => by
    have g13 := (g.trans g2).trans g3
    have g4 := Gr.new (o := .tup [v, u, t]) g3.s hq
    exact k _ _ _ (g13.trans g4) ⟨q, v, u, t, rfl, new_lst g13 hq, rup (dif_up ((g2.trans g3).trans g4).g) r, rup ((dif_up (g3.trans g4).g).trans g.difs) r2, rup ((dif_up g4.g).trans (g.trans g2).difs) r3⟩⟩)
theorem EvF.tup2 {d1 : α} {d2 : β} {z} (ha : EvF X a σ G d1) (hb : EvF X b σ G d2) (hs : starEach [a, b] X.env = (false, eval a X.env) :: starEach [b] X.env := by rfl) (hs2 : starEach [b] X.env = (false, eval b X.env) :: starEach [] X.env := by rfl) :
    EvF X (.Tuple [a, b] z pos) σ G (d1, d2) := fun G1 H1 Q s1 s2 k =>
  WE.of (pe_tup (pa_cons pe_we (pa_cons pe_we pa_nil hs2) hs)) (ha G1 H1 _ s1 s2 fun G2 H2 v g r => hb G2 H2 _ (s1.trans g.g) g.s fun G3 H3 u g2 r2 => ⟨small_sz (n := 2), fun q hq => by
    have g13 := g.trans g2
    have g4 := Gr.new (o := .tup [v, u]) g2.s hq
    exact k _ _ _ (g13.trans g4) ⟨q, v, u, rfl, new_lst g13 hq, rup (dif_up (g2.trans g4).g) r, rup ((dif_up g4.g).trans g.difs) r2⟩⟩)
/-- one argument; what is told is new -/
def P1F {α β : Type} [Rp α] [Rp β] (pre : α → Prop) (f : α → β) : Sp := fun vs H Q _ => ∃ G v a, vs = [v] ∧ Same G H ∧ rp G v a ∧ pre a ∧ ∀ G' H' w, Gr G H G' H' → rp (dif G' H) w (f a) → Q w H'
theorem P1F.imp {pre : α → Prop} {f : α → β} {vs : List V} {H : Hp} {Q : VK} {E : XK} (h : P1 pre f vs H Q E) : P1F pre f vs H Q E := by
  obtain ⟨G, v, a, e, s, r, p, k⟩ := h
  exact ⟨G, v, a, e, s, r, p, fun G' H' w g r => k G' H' w g (rup dif_same r)⟩
theorem cal_imp {P : Program} {w : World} {K : PySem.W.Frag} {mg : Str → Option Value} {base : Heap} {sp sp' : Sp} (c : C8.Cal P w K mg base k x sp []) (h : ∀ vs H Q E, sp' vs H Q E → sp vs H Q E) : C8.Cal P w K mg base k x sp' [] := by
  obtain ⟨f, fd, ps, ds, F, m, kp, b, v⟩ := c.ex
  cases v
  refine ⟨f, fd, ps, [], F.imp fun vs H Q E q => ?_, m, kp, b, .nil⟩
  exact h vs H Q E q
theorem EvF.call1 {pre : α → Prop} {f : α → β} {d : α} (cc : C8.Cal X.prog X.w X.K X.mg X.base k x (P1F pre f) []) (hr : Room j X.A) (ha : Ev X e σ G d) (hp : pre d) (hk : k ≤ j := by decide) (hg : Gl X x := by rfl)
    (hdb : (x == ("__debug__" : Str)) = false := by decide) (hs : starEach [e] X.env = (false, eval e X.env) :: starEach [] X.env := by rfl) (hpl : (backTo pos (starEach [] X.env)).any (·.1) = false := by rfl) : EvF X (.Call (.Name x p) [e] [] pos) σ G (f d) := fun G1 H1 Q s1 s2 kk =>
  WE.of (C8.pe_c cc hr hk hg (pa_cons pe_we pa_nil hs) hdb hs hpl) (ha G1 H1 _ s1 s2 fun G2 H2 v g r => ⟨G2, v, d, rfl, g.s, r, hp, fun G3 H3 w g2 r2 => kk G3 H3 w (g.trans g2) (rup g.difs r2)⟩)
theorem EvF.iteT {z : α} (h : ET X c σ G true) (h1 : EvF X a σ G z) : EvF X (.IfExp c a b pos) σ G z := fun G1 H1 Q s1 s2 k =>
  WE.of (pe_ifExp pt_wt pe_we pe_we) (h G1 H1 _ s1 s2 fun G2 H2 g => h1 G2 H2 _ (s1.trans g.g) g.s fun G3 H3 v g2 r => k G3 H3 v (g.trans g2) (rup g.difs r))
theorem EvF.iteF {z : α} (h : ET X c σ G false) (h2 : EvF X b σ G z) : EvF X (.IfExp c a b pos) σ G z := fun G1 H1 Q s1 s2 k =>
  WE.of (pe_ifExp pt_wt pe_we pe_we) (h G1 H1 _ s1 s2 fun G2 H2 g => h2 G2 H2 _ (s1.trans g.g) g.s fun G3 H3 v g2 r => k G3 H3 v (g.trans g2) (rup g.difs r))
theorem we_ifF {H : Hp} {G1 : Hp} {Q : VK} (s : Same G1 H) (h : ET X c σ G1 false) (k : ∀ G2 H2, Gr G1 H G2 H2 → WE X b σ H2 Q) : WE X (.IfExp c a b pos) σ H Q :=
  WE.of (pe_ifExp pt_wt pe_we pe_we) (h G1 H _ (Same.refl _) s fun G2 H2 g => k G2 H2 g)
theorem we_ifT {H : Hp} {G1 : Hp} {Q : VK} (s : Same G1 H) (h : ET X c σ G1 true) (k : ∀ G2 H2, Gr G1 H G2 H2 → WE X a σ H2 Q) : WE X (.IfExp c a b pos) σ H Q :=
  WE.of (pe_ifExp pt_wt pe_we pe_we) (h G1 H _ (Same.refl _) s fun G2 H2 g => k G2 H2 g)
end
end D1

namespace D1
open PySem L2 Rp Da
/-! ### not in, of a pair of data -/
def rNiT (K : PySem.W.Frag) : R2 := fun x y H Q => ∃ d ds, Dp K H x d ∧ Dp K H y (.tuple ds) ∧ SeqAt.shaped d = true ∧ PyData.canLayAll0 ds = true ∧ Q (.bl (!ds.any fun z => PyData.eqv z d)) H
section
variable {α β γ : Type} [Rp α] [Rp β] [Rp γ] {X : Cx} {a b e : Expr} {σ : St} {G : Hp} {pos p : Pos} {rest : List Stmt} {k j : Nat} {x : Str}
theorem op_niT (hu : X.A.units + 65 < cLine) : OpR X (compareOp .NotIn) (rNiT X.K) := by
  intro pins s σ H u v uv vv Q I ru rv ask
  obtain ⟨d, ds, h1, h2, h3, h4, q⟩ := ask
  obtain ⟨as, r1⟩ := Dp.reads I d u uv h1 ru
  obtain ⟨bs, r2⟩ := Dp.reads I (.tuple ds) v vv h2 rv
  exact SeqAt.notIn_tuple_reads r2 r1 h4 (SeqAt.canLay_of_shaped h3) (PyProof.Rows.room_in_shaped h3 hu) ⟨.bl _, H, I, rfl, q⟩
theorem ET.niP [Da α] [DecidableEq α] [De α] {d y z : α} (hu : X.A.units + 65 < cLine) (ha : Ev X a σ G d) (hb : Ev X b σ G (y, z)) (ld : lay d) (ly : lay y) (lz : lay z) (hm : behindInMarks .NotIn b = false := by rfl) (hd : dep α ≤ 64 := by decide) : ET X (.Compare a [.NotIn] [b] pos) σ G (!decide (d = y ∨ d = z)) :=
  ET.cmp (op_niT hu) hm (fun G H u v Q s r1 r2 k => by
    refine ⟨toD d, [toD y, toD z], dp (rup s r1), dp (a := (y, z)) (rup s r2), shaped_of ld hd, canAll_of (as := [y, z]) (fun w hw => ?_), ?_⟩
    · rcases List.mem_cons.mp hw with e | hw
      · rw [e]; exact ly
      · rw [List.mem_singleton.mp hw]; exact lz
    · have e1 := any_eqv d [y, z]
      have e2 : decide (d ∈ [y, z]) = decide (d = y ∨ d = z) := by
        rw [Bool.eq_iff_iff, decide_eq_true_eq, decide_eq_true_eq]
        simp
      rw [e2] at e1
      show Q (.bl (!([y, z].map toD).any fun w => PyData.eqv w (toD d))) H
      rw [e1]
      exact k _ _ _ (GrM.refl s) rfl) ha hb
/-- a def that stands in a slot is called, what is told is new -/
theorem EvF.callL (i : Nat) {f0 : Addr} {pre : α → Prop} {f : α → β} {z : α} (c : C8.CalAt X.prog X.w X.K X.mg X.base k f0 (P1F pre f)) (hr : Room j X.A) (hσ : σ[i]? = some (some (.ref f0))) (ha : Ev X a σ G z) (hp : pre z) (hk : k ≤ j := by decide) (hN : X.N[i]? = some x := by rfl)
    (hv : Vis X.env.scope x := by first | exact Or.inl rfl | exact Or.inr (Or.inl rfl) | exact Or.inr (Or.inr rfl)) (hdb : (x == ("__debug__" : Str)) = false := by decide) (hcd : (x == ("__classdict__" : Str)) = false := by decide)
    (hs : starEach [a] X.env = (false, eval a X.env) :: starEach [] X.env := by rfl) (hpl : (backTo pos (starEach [] X.env)).any (·.1) = false := by rfl) : EvF X (.Call (.Name x p) [a] [] pos) σ G (f z) := fun G1 H1 Q s1 s2 kk => by
  obtain ⟨fd, ps, F, kp, bi⟩ := c.ex
  exact WE.of (pe_callL (CX := C8.CX0) (E := C8.E0) (sp := P1F pre f) F (hr.mono hk) hN hv kp bi .nil C8.pass0 (pa_cons pe_we pa_nil hs) hdb hcd hs hpl) ⟨hσ, ha G1 H1 _ s1 s2 fun G2 H2 v g r => ⟨G2, v, z, rfl, g.s, r, hp, fun G3 H3 w g2 r2 => kk _ _ _ (g.trans g2) (rup g.difs r2)⟩⟩
/-- try, where the body raises nothing -/
theorem ws_try {body : List Stmt} {h0 : ExceptHandler} {hs : List ExceptHandler} {D : Ends} {H : Hp} (h : WS X.nox body { D with nx := fun σ' H' => WS X rest D σ' H' } σ H) : WS X (.Try body (h0 :: hs) [] [] pos :: rest) D σ H := WS.cons (ps_try_thru0 (t := WS X.nox body) pss_ws) h
end
end D1

namespace D1
open PySem L2 Rp
section
variable {α β γ δ : Type} [Rp α] [Rp β] [Rp γ] [Rp δ] {X : Cx} {a b e : Expr} {σ : St} {G : Hp} {pos p q px : Pos} {rest : List Stmt}
theorem pairedRev {F : V → α → Prop} : ∀ {xs : List V} {l : List α}, Paired F xs l → Paired F xs.reverse l.reverse
  | _, _, .nil => .nil
  | _, _, .cons r t => by
    rw [List.reverse_cons, List.reverse_cons]
    exact r2_cat.PairedAppend (pairedRev t) (.cons r .nil)
/-- xs[::-1] -/
theorem Ev.revL {l : List α} {k p1 p2 p3} (h : Ev X e σ G l) : Ev X (.Subscript e (.Slice none none (some (.UnaryOp .USub (.Constant (.int 1) k p1) p2)) p3) pos) σ G l.reverse := fun G1 H1 Q s1 s2 kk =>
  WE.of (pe_revL pe_we) (h G1 H1 _ s1 s2 fun G2 H2 v g r => by
    obtain ⟨q, xs, rfl, h1, pr⟩ := r
    refine ⟨q, xs, rfl, SqL.of (g.s _ _ h1), fun p hp => ?_⟩
    have g2 := Gr.new (o := .lst xs.reverse) g.s hp
    exact kk _ _ _ (g.trans g2) ⟨p, _, rfl, upd_same, pmono (pairedRev pr) fun _ _ => rup g2.g⟩)
/-- xs[i], where i comes of a change -/
theorem we_ixI {H : Hp} {Q : VK} (h : WE X a σ H fun v H1 => WE X b σ H1 fun u H2 => ∃ (G2 : Hp) (l : List α) (i : Nat), Same G2 H2 ∧ rp G2 v l ∧ u = .int (i : Int) ∧ i < l.length ∧ ∀ w d, d ∈ l → rp G2 w d → Q w H2) (hs : PlainIx b := by exact fun _ _ => rfl) : WE X (.Subscript a b pos) σ H Q :=
  WE.of (pe_ix ix_list pe_we pe_we hs) (WE.mono h fun v H1 h2 => WE.mono h2 fun u H2 ⟨G2, l, i, s, r, e, hi, k⟩ => by
    obtain ⟨q, xs, rfl, h1, pr⟩ := r
    have hj : i < xs.length := by rw [pr.length]; exact hi
    obtain ⟨d, e1, e2⟩ := paired_at pr (List.getElem?_eq_getElem hj)
    exact ⟨q, xs, (i : Int), xs[i], rfl, e, SqL.of (s _ _ h1), atI_nat (List.getElem?_eq_getElem hj), k _ d (List.mem_of_getElem? e1) e2⟩)
/-- xs[:i], where both come of a change -/
theorem we_slToI {p2 : Pos} {H : Hp} {Q : VK} (h : WE X a σ H fun v H1 => WE X b σ H1 fun u H2 => ∃ (G2 : Hp) (l : List α) (i : Int), u = .int i ∧ Same G2 H2 ∧ rp G2 v l ∧ ∀ G3 H3 w, Gr G2 H2 G3 H3 → rp G3 w (cutL l none (some i)) → Q w H3) : WE X (.Subscript a (.Slice none (some b) none p2) pos) σ H Q :=
  WE.of (pe_slice sl_list pe_we po_none (po_some pe_we)) (WE.mono h fun v H1 h2 => WE.mono h2 fun u H2 ⟨G2, l, i, e, s, r, k⟩ => ⟨i, e, rSl_data s r fun G4 H4 w g3 r3 => k _ _ _ g3 r3⟩)
/-- [elt for i in range(n)], where n and elt come of changes -/
theorem tlc_R {elt : Expr} {scope : Scope} {own : List (Str × Nat)} {j : Nat} {y : Str} {G1 H1 : Hp} {Q : VK} (I : Nat → Addr → Nat → List V → Hp → Hp → Prop) (hm : X.mg "range" = none)
    (h : WE X e σ H1 fun v H2 => ∃ n : Nat, v = .int (n : Int) ∧ n < 1000000 ∧ ∃ G2, Same G1 G2 ∧ Same G2 H2 ∧ (∀ b, H1 b ≠ none → H2 b ≠ none) ∧ ∀ D, H2 D = none → I n D 0 [] G2 (upd H2 D (.lst [])))
    (he : ∀ n D i acc G2 H2, i < n → Same G1 G2 → Same G2 H2 → G2 D = none → H2 D = some (.lst acc) → acc.length = i → H1 D = none → I n D i acc G2 H2 → ∀ G3 H3, Gr G2 H2 G3 H3 → ∀ s H C cl fp,
      WE (BK X s H scope C cl fp) elt ((wipe σ (own.map (·.2))).set j (some (.int (i : Int)))) H3 fun v H4 => ∃ G4, Same G3 G4 ∧ Same G4 H4 ∧ G4 D = none ∧ H4 D = some (.lst acc) ∧ I n D (i + 1) (acc ++ [v]) G4 (upd H4 D (.lst (acc ++ [v]))))
    (k : ∀ n D acc G2 H2, Same G1 G2 → Same G2 H2 → G2 D = none → H2 D = some (.lst acc) → acc.length = n → H1 D = none → I n D n acc G2 H2 → Q (.ref D) H2)
    (hw : ∀ v, wipe ((wipe σ (own.map (·.2))).set j (some v)) (own.map (·.2)) = wipe σ (own.map (·.2))) (hg : Gl X "range" := by rfl) (hst : starEach [e] X.env = [(false, eval e X.env)] := by rfl) :
    tLc (WI X (.Name y px) (.Call (.Name "range" p) [e] [] q)) (gName j) (ATs X scope []) (AE X scope elt) (own.map (·.2)) σ H1 Q :=
  WI.of (pi_range1 hg hm (pa_cons pe_we pa_nil hst) hst) (WE.mono h fun v H2 ⟨n, e1, e2, G2, a1, a2, dom, a3⟩ => by
    subst e1
    refine ⟨(n : Int), rfl, by omega, by omega, ?_⟩
    rw [Int.toNat_natCast]
    intro D hD
    have gD : G2 D = none := a2.free hD
    have hD1 : H1 D = none := by
      cases e : H1 D with
      | none => rfl
      | some o => exact absurd hD (dom D (by rw [e]; exact fun z => nomatch z))
    refine lc_it (Qd := fun H => Q (.ref D) H) walk_range (fun i H => ∃ G3 acc, Same G2 G3 ∧ Same G3 H ∧ G3 D = none ∧ H D = some (.lst acc) ∧ acc.length = i ∧ I n D i acc G3 H) ?_ (fun _ _ _ _ => trivial) ?_ ?_
    · exact ⟨G2, [], Same.refl _, fun b o e => by rw [upd_ne (ne_of_none e gD)]; exact a2 b o e, gD, upd_same, rfl, a3 D hD⟩
    · rintro i x H H' hi' ⟨G3, acc, b1, b2, b3, b4, b5, b6⟩ y
      obtain ⟨rfl, rfl⟩ := y
      have ez : (0 : Int) + (i : Int) = (i : Int) := Int.zero_add _
      show wipe ((wipe σ _).set j (some (.int (0 + (i : Int))))) _ = _ ∧ _
      refine ⟨hw _, ?_⟩
      intro s0 H0 C cl fp
      refine ETs.nil (X := BK X s0 H0 scope C cl fp) G3 H' _ (Same.refl _) b2 fun G5 H5 g5 => ?_
      rw [if_pos rfl]
      intro s0 H0 C cl fp
      show WE (BK X s0 H0 scope C cl fp) elt ((wipe σ (own.map (·.2))).set j (some (.int (0 + (i : Int))))) H5 _
      rw [ez]
      refine WE.mono (he n D i acc G3 H' hi' (a1.trans b1) b2 b3 b4 b5 hD1 b6 G5 H5 g5 s0 H0 C cl fp) fun v H6 ⟨G6, c1, c2, c3, c4, c5⟩ => ?_
      have e3 : sizeLine = 16777216 := rfl
      refine ⟨acc, c4, by omega, G6, acc ++ [v], (b1.trans g5.g).trans c1, fun b' o e => ?_, c3, upd_same, by rw [List.length_append, b5]; rfl, c5⟩
      rw [upd_ne (ne_of_none e c3)]
      exact c2 b' o e
    · rintro H ⟨G3, acc, b1, b2, b3, b4, b5, b6⟩
      exact k n D acc G3 H (a1.trans b1) b2 b3 b4 b5 hD1 b6)
end
end D1

namespace D1
open PySem L2 Rp
section
variable {α β γ δ : Type} [Rp α] [Rp β] [Rp γ] [Rp δ] {X : Cx} {a b c e tg : Expr} {σ : St} {G : Hp} {pos p q px : Pos} {rest : List Stmt}
/-- y = [x for x in iter if c], y a plain local name -/
theorem ws_asgSel (i j : Nat) {x y : Str} {px2 py spos : Pos} {iter : Expr} {scope : Scope} {l : List γ} {t : γ → Bool} {G1 H1 : Hp} {D : Ends} (s1 : Same G G1) (s2 : Same G1 H1) (hi : EI X (.Name x px) iter σ G l)
    (ht : ∀ d ∈ l, ∀ G' v, Same G G' → rp G' v d → ∀ s H C cl fp, ET (BK X s H scope C cl fp) c ((wipe σ [j]).set j (some v)) G' (t d))
    (k : ∀ G2 H2 v, Gr G1 H1 G2 H2 → rp G2 v (l.filter t) → WS X rest D (σ.set i (some v)) H2) (hz : l.length < sizeLine) (hN : X.N.Nodup) (ok : BlkOk X.N X.env.scope scope [(x, j)])
    (hsw : swapsWith (.ListComp (.Name x px2) [⟨.Name x px, iter, [c], 0⟩] scope pos) (some (.Name y py)) spos.line X.env = pure true := by rfl) (hx : X.N[j]? = some x := by rfl) (lx : Loc (relS scope X.env.scope) x := by first | exact Or.inl rfl | exact Or.inr rfl)
    (fx : (scope.names.lookup x == some .cell) = true ∨ (relS scope X.env.scope).names.lookup x = some .local := by first | exact .inr rfl | exact .inl rfl) (vx : Vis (relS scope X.env.scope) x := by first | exact Or.inl rfl | exact Or.inr (Or.inl rfl) | exact Or.inr (Or.inr rfl)) (hd : (x == ("__debug__" : Str)) = false := by decide) (hcd : (x == ("__classdict__" : Str)) = false := by decide)
    (hc : X.calm = true := by rfl) (hy : X.N[i]? = some y := by rfl) (hyl : X.env.scope.names.lookup y = some .local := by rfl) (hs : ∀ x, foldedSetIterable iter X.env x = pure x := by intro _; rfl) (hjl : ∀ v : V, ((wipe σ [j]).set j (some v))[j]? = some (some v) := by intro _; rfl) :
    WS X (.Assign [.Name y py] (.ListComp (.Name x px2) [⟨.Name x px, iter, [c], 0⟩] scope pos) spos :: rest) D σ H1 :=
  WS.cons (ps_setLc (own := [(x, j)]) (g := gName j) (tt := ATs X scope [c]) (te := AE X scope (.Name x px2)) hc hN hy hyl hsw pi_wi ok (fun _ _ _ _ _ => pg_name hN hx lx fx) (fun s H C cl fp => ⟨fun pins s1 σ' H' Q' I h => h s H C cl fp pins s1 I⟩) (fun s H C cl fp => ⟨fun pins s1 σ' H' Q' I h => h s H C cl fp pins s1 I⟩) hs)
    (hi G1 H1 _ s1 s2 fun J S Y G2 H2 g2 w hS hY L hL => by
      have key := lc_data (f := fun d : γ => d) (t := t) (Qd := fun v H3 => WS X rest D (σ.set i (some v)) H3) (tt := ATs X scope [c]) (te := AE X scope (.Name x px2)) (vs := [j]) w hS hY (tgB1 (i := j)) (fun _ _ _ b => wipe_b1 b)
        (fun d hd' G' σ' sG b H' Q' s3 k' s H C cl fp pins s1' I => by
          obtain ⟨v, r, e⟩ := b
          subst e
          exact ETs.one (ht d hd' G' v ((s1.trans g2.g).trans sG) r s H C cl fp) G' H' Q' (Same.refl _) s3 k' pins s1' I)
        (fun d hd' td G' σ' sG b G1' H' Q' s3 s4 k' s H C cl fp => by
          obtain ⟨v, r, e⟩ := b
          subst e
          exact (Ev.v (X := BK X s H scope C cl fp) j (v := v) (d := d) (hjl v) r hx vx hd hcd) G1' H' Q' s3 s4 k')
        hz g2.s hL fun G3 H3 v g3 r => k G3 H3 v (g2.trans g3) (by rwa [List.map_id'] at r)
      exact key)
end
end D1

namespace D1
open PySem L2 Rp Da
/-! ### how long what repr tells may be -/
theorem textFrom_le : ∀ (ts : List Str) (k : Nat) (acc : Str), (textFrom k acc ts).length ≤ acc.length + piled ts
  | [], k, acc => by rw [piled_nil]; exact Nat.le_refl _
  | t :: r, k, acc => by
    have h := textFrom_le r (k + 1) (acc ++ (if k > 0 then ", " else "" : String) ++ t)
    have e : (acc ++ (if k > 0 then ", " else "" : String) ++ t).length ≤ acc.length + 2 + t.length := by
      rw [strLen_append, strLen_append]
      split
      · exact Nat.le_refl _
      · show acc.length + 0 + t.length ≤ _
        omega
    rw [piled_cons]
    show (textFrom (k + 1) (acc ++ (if k > 0 then ", " else "" : String) ++ t) r).length ≤ _
    omega
theorem listText_le (ts : List Str) : (listText ts).length ≤ piled ts + 2 := by
  unfold listText
  rw [strLen_append]
  have h := textFrom_le ts 0 "["
  have e1 : (("[" : String) : Str).length = 1 := rfl
  have e2 : (("]" : String) : Str).length = 1 := rfl
  omega
class Sh (α : Type) [Rp α] [Da α] where
  cost : α → Nat
  sh : ∀ a : α, lay a → (toD a).showable = true
  le : ∀ a : α, lay a → (toD a).shown.length ≤ cost a
  shp : ∀ a : α, (∃ xs, toD a = .list xs) ∨ (∃ xs, toD a = .tuple xs) ∨ ∃ z, toD a = .str z
theorem ok_small {z : Str} (h : PyData.strOk z = true) : ∀ c ∈ z.cps.toList, c < 16 ^ 8 := fun c hc => by
  unfold PyData.strOk at h
  rw [Array.all_eq_true_iff_forall_mem] at h
  have := h c (Array.mem_toList_iff.mp hc)
  simp at this
  omega
instance : Sh Str := ⟨fun z => 10 * z.length + 2, fun a _ => by show PyData.showable (.str a) = true; simp [PyData.showable], fun a h => by
  show (PyData.shown (.str a)).length ≤ _
  simp only [PyData.shown]
  exact StrLaws.reprText_len a (ok_small h), fun a => .inr (.inr ⟨a, rfl⟩)⟩
theorem sh_all {α : Type} [Rp α] [Da α] [Sh α] : ∀ l : List α, (∀ a ∈ l, lay a) → PyData.showableAll (l.map toD) = true
  | [], _ => by simp [PyData.showableAll]
  | a :: l, h => by
    simp only [List.map_cons, PyData.showableAll, Bool.and_eq_true]
    exact ⟨Sh.sh a (h a List.mem_cons_self), sh_all l fun b hb => h b (List.mem_cons_of_mem _ hb)⟩
theorem piled_all {α : Type} [Rp α] [Da α] [Sh α] : ∀ l : List α, (∀ a ∈ l, lay a) → piled (PyData.shownAll (l.map toD)) ≤ (l.map fun a => Sh.cost a + 2).sum
  | [], _ => by simp [PyData.shownAll, piled_nil]
  | a :: l, h => by
    have h1 := Sh.le a (h a List.mem_cons_self)
    have h2 := piled_all l fun b hb => h b (List.mem_cons_of_mem _ hb)
    simp only [List.map_cons, PyData.shownAll, piled_cons, List.sum_cons]
    omega
instance {α : Type} [Rp α] [Da α] [Sh α] : Sh (List α) := ⟨fun l => (l.map fun a => Sh.cost a + 2).sum + 2, fun l h => by
    show PyData.showable (.list (l.map toD)) = true
    simp only [PyData.showable]
    exact sh_all l h, fun l h => by
    show (PyData.shown (.list (l.map toD))).length ≤ _
    simp only [PyData.shown]
    have h1 := listText_le (PyData.shownAll (l.map toD))
    have h2 := piled_all l h
    omega, fun l => .inl ⟨_, rfl⟩⟩
instance {α β : Type} [Rp α] [Rp β] [Da α] [Da β] [Sh α] [Sh β] : Sh (α × β) := ⟨fun p => Sh.cost p.1 + Sh.cost p.2 + 6, fun p h => by
    show PyData.showable (.tuple [toD p.1, toD p.2]) = true
    simp only [PyData.showable, PyData.showableAll, Bool.and_true, Bool.and_eq_true]
    exact ⟨Sh.sh p.1 h.1, Sh.sh p.2 h.2⟩, fun p h => by
    show (PyData.shown (.tuple [toD p.1, toD p.2])).length ≤ _
    simp only [PyData.shown, PyData.shownAll]
    have h1 := fmt_text [(toD p.1).shown, (toD p.2).shown]
    have h2 := Sh.le p.1 h.1
    have h3 := Sh.le p.2 h.2
    simp only [piled_cons, piled_nil] at h1
    omega, fun p => .inr (.inl ⟨_, rfl⟩)⟩
instance {α β γ : Type} [Rp α] [Rp β] [Rp γ] [Da α] [Da β] [Da γ] [Sh α] [Sh β] [Sh γ] : Sh (T3 α β γ) := ⟨fun p => Sh.cost p.a + Sh.cost p.b + Sh.cost p.c + 8, fun p h => by
    show PyData.showable (.tuple [toD p.a, toD p.b, toD p.c]) = true
    simp only [PyData.showable, PyData.showableAll, Bool.and_true, Bool.and_eq_true]
    exact ⟨Sh.sh p.a h.1, Sh.sh p.b h.2.1, Sh.sh p.c h.2.2⟩, fun p h => by
    show (PyData.shown (.tuple [toD p.a, toD p.b, toD p.c])).length ≤ _
    simp only [PyData.shown, PyData.shownAll]
    have h1 := fmt_text [(toD p.a).shown, (toD p.b).shown, (toD p.c).shown]
    have h2 := Sh.le p.a h.1
    have h3 := Sh.le p.b h.2.1
    have h4 := Sh.le p.c h.2.2
    simp only [piled_cons, piled_nil] at h1
    omega, fun p => .inr (.inl ⟨_, rfl⟩)⟩
section
variable {α : Type} [Rp α] [Da α] [Sh α] {X : Cx} {e : Expr} {σ : St} {G : Hp} {p pos : Pos}
theorem Ev.reprS {d : α} (noG : X.A.guards = some []) (hu : X.A.units + 64 < cLine) (hm : X.mg "repr" = none) (h : Ev X e σ G d) (ld : lay d) (hz : Sh.cost d ≤ sizeLine) (h62 : dep α ≤ 62 := by decide)
    (hg : Gl X "repr" := by rfl) (hs : starEach [e] X.env = (false, eval e X.env) :: starEach [] X.env := by rfl) (hpl : (backTo pos (starEach [] X.env)).any (·.1) = false := by rfl) : Ev X (.Call (.Name "repr" p) [e] [] pos) σ G (showD d) :=
  Ev.repr noG hu hm h ld (Sh.sh d ld) (Nat.le_trans (Sh.le d ld) hz) Sh.shp h62 hg hs hpl
end
section
variable {X : Cx} {a b : Expr} {σ : St} {G : Hp} {pos : Pos}
/-- texts of any kind -/
theorem ET.neS {x y : Str} (ha : Ev X a σ G x) (hb : Ev X b σ G y) : ET X (.Compare a [.NotEq] [b] pos) σ G (!decide (x = y)) := ET.cmp op_ne (nomark _) (fun G H u v Q s r1 r2 k => by
  cases r1
  cases r2
  refine ⟨rfl, ?_⟩
  have e : (!decide (x = y)) = decide (¬ V.str x = V.str y) := by
    by_cases h : x = y
    · subst h; simp
    · simp [h]
  have := k _ _ (.bl (!decide (x = y))) (GrM.refl s) rfl
  first
    | (rw [e] at this; exact this)
    | simpa using this) ha hb
theorem Ev.eqS {x y : Str} (ha : Ev X a σ G x) (hb : Ev X b σ G y) : Ev X (.Compare a [.Eq] [b] pos) σ G (decide (x = y)) := Ev.cmp op_eq (nomark _) (fun G H u v Q s r1 r2 k => by
  cases r1
  cases r2
  refine ⟨rfl, ?_⟩
  have e : decide (x = y) = decide (V.str x = V.str y) := by
    by_cases h : x = y
    · subst h; simp
    · simp [h]
  have := k _ _ (.bl (decide (x = y))) (GrM.refl s) rfl
  first
    | (rw [e] at this; exact this)
    | simpa using this) ha hb
end
end D1

namespace D1
open PySem L2 Rp
section
variable {α β γ : Type} [Rp α] [Rp β] [Rp γ] {X : Cx} {a b : Expr} {σ : St} {pos p : Pos} {x : Str} {k j : Nat} {C : Addr}
/-- x(a, b) makes an object, where a and b may write -/
theorem we_make2 {pre : α → β → Prop} {f : α → β → γ} {H : Hp} {Q : VK} (c : C8.Mak X.prog X.w X.K X.mg X.base k x C (PI2 C pre f) []) (hr : Room j X.A) (h : WE X a σ H fun v H1 => WE X b σ H1 fun u H2 => ∃ G2 d z, Same G2 H2 ∧ rp G2 v d ∧ rp G2 u z ∧ pre d z ∧ ∀ G3 H3 w, Gr G2 H2 G3 H3 → rp G3 w (f d z) → Q w H3) (hk : k + 1 ≤ j := by decide) (hg : Gl X x := by rfl)
    (hdb : (x == ("__debug__" : Str)) = false := by decide) (he : starEach [a, b] X.env = (false, eval a X.env) :: starEach [b] X.env := by rfl) (he2 : starEach [b] X.env = (false, eval b X.env) :: starEach [] X.env := by rfl) (hpl : (backTo pos (starEach [b] X.env)).any (·.1) = false := by rfl) : WE X (.Call (.Name x p) [a, b] [] pos) σ H Q :=
  WE.of (C8.pe_mk c hr hk hg (pa_cons pe_we (pa_cons pe_we pa_nil he2) he) hdb he hpl) (WE.mono h fun v H1 h1 => WE.mono h1 fun u H3 ⟨G3, d, z, s3, r1, r2, hp, kk⟩ q dq hq hdq ne => by
    have gq : G3 q = none := s3.free hq
    refine ⟨G3, q, dq, v, u, d, z, rfl, upd_same, gq, made_gr (C := C) s3 hq hdq, r1, r2, hp, fun G4 H4 ob g3 ho r3 => ⟨rfl, ?_⟩⟩
    have g4q : G4 q = none := g3.f q gq (by rw [upd_same]; exact fun z => nomatch z)
    refine kk (upd G4 q ob) H4 _ ?_ r3
    refine ⟨g3.g.trans (same_new g4q), fun b' o' _ e => ?_, fun b' o' e => ?_, fun b' e n => ?_, fun b' n => ?_⟩
    · have ne1 := ne_of_none e hq
      exact g3.h b' o' ne1 (by rw [upd_ne ne1, upd_ne (ne_of_none e hdq)]; exact e)
    · by_cases hb' : b' = q
      · subst hb'; rw [upd_same] at e; cases e; exact ho
      · rw [upd_ne hb'] at e; exact g3.s b' o' e
    · rw [upd_ne (fun z => n (by rw [z]; exact hq))]
      exact g3.f b' e (upd_some (upd_some n))
    · exact g3.d b' (upd_some (upd_some n)))
end
end D1

namespace D1
open PySem L2 Rp
section
variable {α β γ δ : Type} [Rp α] [Rp β] [Rp γ] [Rp δ] {X : Cx} {a b c e tg : Expr} {σ : St} {G : Hp} {pos p q px : Pos} {rest : List Stmt}
/-- y = [..] on one line, y a local name; among steps that write -/
theorem ws_asgLc (i : Nat) {y : Str} {py spos : Pos} {elt iter : Expr} {ifs : List Expr} {scope : Scope} {own : List (Str × Nat)} {l : List γ} {f : γ → δ} {t : γ → Bool} {g : TG} {B : γ → Hp → St → St → Prop} {G1 H1 : Hp} {D : Ends} (s1 : Same G G1) (s2 : Same G1 H1)
    (hi : EI X tg iter σ G l) (hB : TgB g B) (hg : ∀ (s : Shared) (H : Hp) (C : Addr) (cl : List (Str × Addr)) (fp : List Addr), PG (BK X s H scope C cl fp) tg g)
    (ht : ∀ c ∈ l, ∀ G' σ', Same G G' → B c G' (wipe σ (own.map (·.2))) σ' → ∀ s H C cl fp, ETs (BK X s H scope C cl fp) ifs σ' G' (t c))
    (he : ∀ c ∈ l, t c = true → ∀ G' σ', Same G G' → B c G' (wipe σ (own.map (·.2))) σ' → ∀ s H C cl fp, Ev (BK X s H scope C cl fp) elt σ' G' (f c))
    (hw : ∀ c G' σ', B c G' (wipe σ (own.map (·.2))) σ' → wipe σ' (own.map (·.2)) = wipe σ (own.map (·.2)))
    (hz : l.length < sizeLine) (hN : X.N.Nodup) (ok : BlkOk X.N X.env.scope scope own)
    (k : ∀ G2 H2 v, Gr G1 H1 G2 H2 → rp G2 v ((l.filter t).map f) → WS X rest D (σ.set i (some v)) H2)
    (hsw : swapsWith (.ListComp elt [⟨tg, iter, ifs, 0⟩] scope pos) (some (.Name y py)) spos.line X.env = pure true := by rfl) (hc : X.calm = true := by rfl) (hy : X.N[i]? = some y := by rfl) (hyl : X.env.scope.names.lookup y = some .local := by rfl) (hs : ∀ x, foldedSetIterable iter X.env x = pure x := by intro _; rfl) :
    WS X (.Assign [.Name y py] (.ListComp elt [⟨tg, iter, ifs, 0⟩] scope pos) spos :: rest) D σ H1 :=
  WS.cons (ps_setLc (tt := ATs X scope ifs) (te := AE X scope elt) hc hN hy hyl hsw pi_wi ok hg (fun s H C cl fp => ⟨fun pins s1 σ' H' Q' I h => h s H C cl fp pins s1 I⟩) (fun s H C cl fp => ⟨fun pins s1 σ' H' Q' I h => h s H C cl fp pins s1 I⟩) hs)
    (hi G1 H1 _ s1 s2 fun J S Y G2 H2 g2 w hS hY L hL => lc_data (Qd := fun v H3 => WS X rest D (σ.set i (some v)) H3) w hS hY hB hw
      (fun c hc' G' σ' sG b H' Q' s3 k' s H C cl fp pins s1' I => ht c hc' G' σ' ((s1.trans g2.g).trans sG) b s H C cl fp G' H' Q' (Same.refl _) s3 k' pins s1' I)
      (fun c hc' tc G' σ' sG b G1' H' Q' s3 s4 k' s H C cl fp => he c hc' tc G' σ' ((s1.trans g2.g).trans sG) b s H C cl fp G1' H' Q' s3 s4 k')
      hz g2.s hL fun G3 H3 v g3 r => k G3 H3 v (g2.trans g3) r)
theorem ws_asgMap (i j : Nat) {x y : Str} {py spos : Pos} {elt iter : Expr} {scope : Scope} {l : List γ} {f : γ → δ} {G1 H1 : Hp} {D : Ends} (s1 : Same G G1) (s2 : Same G1 H1) (hi : EI X (.Name x px) iter σ G l)
    (he : ∀ d ∈ l, ∀ G' v, Same G G' → rp G' v d → ∀ s H C cl fp, Ev (BK X s H scope C cl fp) elt ((wipe σ [j]).set j (some v)) G' (f d))
    (hz : l.length < sizeLine) (hN : X.N.Nodup) (ok : BlkOk X.N X.env.scope scope [(x, j)]) (k : ∀ G2 H2 v, Gr G1 H1 G2 H2 → rp G2 v (l.map f) → WS X rest D (σ.set i (some v)) H2)
    (hsw : swapsWith (.ListComp elt [⟨.Name x px, iter, [], 0⟩] scope pos) (some (.Name y py)) spos.line X.env = pure true := by rfl) (hx : X.N[j]? = some x := by rfl) (lx : Loc (relS scope X.env.scope) x := by first | exact Or.inl rfl | exact Or.inr rfl)
    (fx : (scope.names.lookup x == some .cell) = true ∨ (relS scope X.env.scope).names.lookup x = some .local := by first | exact .inr rfl | exact .inl rfl) (hc : X.calm = true := by rfl) (hy : X.N[i]? = some y := by rfl) (hyl : X.env.scope.names.lookup y = some .local := by rfl) (hs : ∀ x, foldedSetIterable iter X.env x = pure x := by intro _; rfl) :
    WS X (.Assign [.Name y py] (.ListComp elt [⟨.Name x px, iter, [], 0⟩] scope pos) spos :: rest) D σ H1 :=
  ws_asgLc i (own := [(x, j)]) (f := f) (t := fun _ => true) s1 s2 hi tgB1 (fun _ _ _ _ _ => pg_name hN hx lx fx) (fun d hd G' σ' s1 _ s H C cl fp => ETs.nil) (fun d hd td G' σ' s1 ⟨v, r, e⟩ s H C cl fp => e ▸ he d hd G' v s1 r s H C cl fp) (fun _ _ _ b => wipe_b1 b) hz hN ok
    (fun G2 H2 v g r => k G2 H2 v g (by rwa [filter_yes] at r)) hsw hc hy hyl hs
end
end D1

namespace T91
open PySem L2 D1 Rp
/-! the text by places -/
def top (i : Nat) : Stmt := PySem.Challenge.pw_panelfairs_k91_whole_texts_there_and_bac.main.body.getD i (.Pass ⟨0, 0, 0, 0⟩)
-- top 1: __name__ = 'panelfairs.errors'
-- top 10: __name__ = 'panelfairs.doors'
-- top 11: LETTERS = 'abcdefghijklmnopqrstuvwxyz'
abbrev sIsName : Stmt := top 12
abbrev nIsName : List Str := ["value", "sign"]
theorem scIsName : FnScope nIsName ["value"] (C8.fnScope sIsName) := C8.fnScope_by (by decide +kernel)
abbrev sAreNames : Stmt := top 13
abbrev nAreNames : List Str := ["value", "name"]
theorem scAreNames : FnScope nAreNames ["value"] (C8.fnScope sAreNames) := C8.fnScope_by (by decide +kernel)
abbrev sAreEntries : Stmt := top 14
abbrev nAreEntries : List Str := ["value"]
theorem scAreEntries : FnScope nAreEntries ["value"] (C8.fnScope sAreEntries) := C8.fnScope_by (by decide +kernel)
abbrev sIsAscending : Stmt := top 15
abbrev nIsAscending : List Str := ["value"]
theorem scIsAscending : FnScope nIsAscending ["value"] (C8.fnScope sIsAscending) := C8.fnScope_by (by decide +kernel)
abbrev sIsLot : Stmt := top 16
abbrev nIsLot : List Str := ["value", "entries", "name"]
theorem scIsLot : FnScope nIsLot ["value", "entries"] (C8.fnScope sIsLot) := C8.fnScope_by (by decide +kernel)
abbrev sIsField : Stmt := top 17
abbrev nIsField : List Str := ["value", "entries"]
theorem scIsField : FnScope nIsField ["value", "entries"] (C8.fnScope sIsField) := C8.fnScope_by (by decide +kernel)
abbrev sCheckEntries : Stmt := top 18
abbrev nCheckEntries : List Str := ["value"]
theorem scCheckEntries : FnScope nCheckEntries ["value"] (C8.fnScope sCheckEntries) := C8.fnScope_by (by decide +kernel)
-- top 19: __name__ = 'panelfairs.panels'
abbrev sPanelInit : Stmt := inClass (top 20) 0
abbrev nPanelInit : List Str := ["self", "entries", "rows", "row"]
theorem scPanelInit : FnScope nPanelInit ["self", "entries", "rows"] (C8.fnScope sPanelInit) := C8.fnScope_by (by decide +kernel)
abbrev sPanelEntries : Stmt := inClass (top 20) 1
abbrev nPanelEntries : List Str := ["self"]
theorem scPanelEntries : FnScope nPanelEntries ["self"] (C8.fnScope sPanelEntries) := C8.fnScope_by (by decide +kernel)
abbrev sPanelRows : Stmt := inClass (top 20) 2
abbrev nPanelRows : List Str := ["self", "row"]
theorem scPanelRows : FnScope nPanelRows ["self"] (C8.fnScope sPanelRows) := C8.fnScope_by (by decide +kernel)
abbrev sPanelLen : Stmt := inClass (top 20) 3
abbrev nPanelLen : List Str := ["self"]
theorem scPanelLen : FnScope nPanelLen ["self"] (C8.fnScope sPanelLen) := C8.fnScope_by (by decide +kernel)
abbrev sPanelEq : Stmt := inClass (top 20) 8
abbrev nPanelEq : List Str := ["self", "other"]
theorem scPanelEq : FnScope nPanelEq ["self", "other"] (C8.fnScope sPanelEq) := C8.fnScope_by (by decide +kernel)
abbrev sSpotsOf : Stmt := top 21
abbrev nSpotsOf : List Str := ["row", "spot", "name"]
theorem scSpotsOf : FnScope nSpotsOf ["row"] (C8.fnScope sSpotsOf) := C8.fnScope_by (by decide +kernel)
abbrev sIsRow : Stmt := top 22
abbrev nIsRow : List Str := ["value", "entries"]
theorem scIsRow : FnScope nIsRow ["value", "entries"] (C8.fnScope sIsRow) := C8.fnScope_by (by decide +kernel)
abbrev sAreRows : Stmt := top 23
abbrev nAreRows : List Str := ["value", "entries", "row"]
theorem scAreRows : FnScope nAreRows ["value", "entries"] (C8.fnScope sAreRows) := C8.fnScope_by (by decide +kernel)
abbrev sCheckPanel : Stmt := top 24
abbrev nCheckPanel : List Str := ["value"]
theorem scCheckPanel : FnScope nCheckPanel ["value"] (C8.fnScope sCheckPanel) := C8.fnScope_by (by decide +kernel)
-- top 25: __name__ = 'panelfairs.books'
abbrev sIsLine : Stmt := top 26
abbrev nIsLine : List Str := ["value", "names", "word", "lot", "entry"]
theorem scIsLine : FnScope nIsLine ["value", "names"] (C8.fnScope sIsLine) := C8.fnScope_by (by decide +kernel)
abbrev sCopied : Stmt := top 27
abbrev nCopied : List Str := ["line"]
theorem scCopied : FnScope nCopied ["line"] (C8.fnScope sCopied) := C8.fnScope_by (by decide +kernel)
abbrev sBookInit : Stmt := inClass (top 28) 0
abbrev nBookInit : List Str := ["self", "entries", "lines", "line"]
theorem scBookInit : FnScope nBookInit ["self", "entries", "lines"] (C8.fnScope sBookInit) := C8.fnScope_by (by decide +kernel)
abbrev sBookEntries : Stmt := inClass (top 28) 1
abbrev nBookEntries : List Str := ["self"]
theorem scBookEntries : FnScope nBookEntries ["self"] (C8.fnScope sBookEntries) := C8.fnScope_by (by decide +kernel)
abbrev sBookLines : Stmt := inClass (top 28) 2
abbrev nBookLines : List Str := ["self", "line"]
theorem scBookLines : FnScope nBookLines ["self"] (C8.fnScope sBookLines) := C8.fnScope_by (by decide +kernel)
abbrev sBookEq : Stmt := inClass (top 28) 5
abbrev nBookEq : List Str := ["self", "other"]
theorem scBookEq : FnScope nBookEq ["self", "other"] (C8.fnScope sBookEq) := C8.fnScope_by (by decide +kernel)
abbrev sCheckBook : Stmt := top 29
abbrev nCheckBook : List Str := ["value"]
theorem scCheckBook : FnScope nCheckBook ["value"] (C8.fnScope sCheckBook) := C8.fnScope_by (by decide +kernel)
-- top 30: __name__ = 'panelfairs.texts'
abbrev sLineOfNames : Stmt := top 31
abbrev nLineOfNames : List Str := ["names"]
theorem scLineOfNames : FnScope nLineOfNames ["names"] (C8.fnScope sLineOfNames) := C8.fnScope_by (by decide +kernel)
abbrev sIsSomeLine : Stmt := top 32
abbrev nIsSomeLine : List Str := ["value", "word", "names", "entry"]
theorem scIsSomeLine : FnScope nIsSomeLine ["value"] (C8.fnScope sIsSomeLine) := C8.fnScope_by (by decide +kernel)
abbrev sTextOfLine : Stmt := top 33
abbrev nTextOfLine : List Str := ["line", "word", "names", "entry"]
theorem scTextOfLine : FnScope nTextOfLine ["line"] (C8.fnScope sTextOfLine) := C8.fnScope_by (by decide +kernel)
abbrev sIsSomeRound : Stmt := top 34
abbrev nIsSomeRound : List Str := ["value", "field", "cards", "entry"]
theorem scIsSomeRound : FnScope nIsSomeRound ["value"] (C8.fnScope sIsSomeRound) := C8.fnScope_by (by decide +kernel)
abbrev sNamesText : Stmt := top 35
abbrev nNamesText : List Str := ["names", "name"]
theorem scNamesText : FnScope nNamesText ["names"] (C8.fnScope sNamesText) := C8.fnScope_by (by decide +kernel)
abbrev sPanelText : Stmt := top 36
abbrev nPanelText : List Str := ["panel", "row"]
theorem scPanelText : FnScope nPanelText ["panel"] (C8.fnScope sPanelText) := C8.fnScope_by (by decide +kernel)
abbrev sLineText : Stmt := top 37
abbrev nLineText : List Str := ["line"]
theorem scLineText : FnScope nLineText ["line"] (C8.fnScope sLineText) := C8.fnScope_by (by decide +kernel)
abbrev sBookText : Stmt := top 38
abbrev nBookText : List Str := ["book", "line"]
theorem scBookText : FnScope nBookText ["book"] (C8.fnScope sBookText) := C8.fnScope_by (by decide +kernel)
abbrev sRoundsText : Stmt := top 39
abbrev nRoundsText : List Str := ["rounds", "one", "found", "field", "cards"]
theorem scRoundsText : FnScope nRoundsText ["rounds"] (C8.fnScope sRoundsText) := C8.fnScope_by (by decide +kernel)
abbrev sNamesOf : Stmt := top 40
abbrev nNamesOf : List Str := ["text", "names", "name"]
theorem scNamesOf : FnScope nNamesOf ["text"] (C8.fnScope sNamesOf) := C8.fnScope_by (by decide +kernel)
abbrev sPanelOfText : Stmt := top 41
abbrev nPanelOfText : List Str := ["text", "rows", "piece"]
theorem scPanelOfText : FnScope nPanelOfText ["text"] (C8.fnScope sPanelOfText) := C8.fnScope_by (by decide +kernel)
abbrev sLineOf : Stmt := top 42
abbrev nLineOf : List Str := ["text", "word", "blank", "rest", "entry", "middle", "names", "found"]
theorem scLineOf : FnScope nLineOf ["text"] (C8.fnScope sLineOf) := C8.fnScope_by (by decide +kernel)
abbrev sBookOfText : Stmt := top 43
abbrev nBookOfText : List Str := ["text", "pieces", "entries", "lines", "piece", "book"]
theorem scBookOfText : FnScope nBookOfText ["text"] (C8.fnScope sBookOfText) := C8.fnScope_by (by decide +kernel)
abbrev sRoundOf : Stmt := top 44
abbrev nRoundOf : List Str := ["text", "ahead", "middle", "behind", "found"]
theorem scRoundOf : FnScope nRoundOf ["text"] (C8.fnScope sRoundOf) := C8.fnScope_by (by decide +kernel)
abbrev sRoundsOf : Stmt := top 45
abbrev nRoundsOf : List Str := ["text", "found", "piece"]
theorem scRoundsOf : FnScope nRoundsOf ["text"] (C8.fnScope sRoundsOf) := C8.fnScope_by (by decide +kernel)
abbrev sReadBy : Stmt := top 46
abbrev nReadBy : List Str := ["inner", "text", "found"]
theorem scReadBy : FnScope nReadBy ["inner", "text"] (C8.fnScope sReadBy) := C8.fnScope_by (by decide +kernel)
abbrev sReadNames : Stmt := top 47
abbrev nReadNames : List Str := ["text"]
theorem scReadNames : FnScope nReadNames ["text"] (C8.fnScope sReadNames) := C8.fnScope_by (by decide +kernel)
abbrev sReadPanel : Stmt := top 48
abbrev nReadPanel : List Str := ["text"]
theorem scReadPanel : FnScope nReadPanel ["text"] (C8.fnScope sReadPanel) := C8.fnScope_by (by decide +kernel)
abbrev sReadLine : Stmt := top 49
abbrev nReadLine : List Str := ["text"]
theorem scReadLine : FnScope nReadLine ["text"] (C8.fnScope sReadLine) := C8.fnScope_by (by decide +kernel)
abbrev sReadBook : Stmt := top 50
abbrev nReadBook : List Str := ["text"]
theorem scReadBook : FnScope nReadBook ["text"] (C8.fnScope sReadBook) := C8.fnScope_by (by decide +kernel)
abbrev sReadRounds : Stmt := top 51
abbrev nReadRounds : List Str := ["text"]
theorem scReadRounds : FnScope nReadRounds ["text"] (C8.fnScope sReadRounds) := C8.fnScope_by (by decide +kernel)
-- top 52: __name__ = 'law_panelfairs_k91_whole_texts_there_and_bac'
abbrev sLawPurse : Stmt := top 53
abbrev nLawPurse : List Str := ["script", "at", "seed"]
theorem scLawPurse : FnScope nLawPurse ["script", "at"] (C8.fnScope sLawPurse) := C8.fnScope_by (by decide +kernel)
abbrev sLawMixed : Stmt := top 54
abbrev nLawMixed : List Str := ["seed", "turn", "at", "mixed"]
theorem scLawMixed : FnScope nLawMixed ["seed", "turn", "at"] (C8.fnScope sLawMixed) := C8.fnScope_by (by decide +kernel)
abbrev sLawDraw : Stmt := top 55
abbrev nLawDraw : List Str := ["purse", "many", "drawn", "found", "piece"]
theorem scLawDraw : FnScope nLawDraw ["purse", "many"] (C8.fnScope sLawDraw) := C8.fnScope_by (by decide +kernel)
abbrev sLawPurses : Stmt := top 56
abbrev nLawPurses : List Str := ["script", "few", "at"]
theorem scLawPurses : FnScope nLawPurses ["script", "few"] (C8.fnScope sLawPurses) := C8.fnScope_by (by decide +kernel)
abbrev sLawOneOf : Stmt := top 57
abbrev nLawOneOf : List Str := ["purse", "some"]
theorem scLawOneOf : FnScope nLawOneOf ["purse", "some"] (C8.fnScope sLawOneOf) := C8.fnScope_by (by decide +kernel)
abbrev sLawShuffled : Stmt := top 58
abbrev nLawShuffled : List Str := ["purse", "some", "found", "item"]
theorem scLawShuffled : FnScope nLawShuffled ["purse", "some"] (C8.fnScope sLawShuffled) := C8.fnScope_by (by decide +kernel)
abbrev sLawWord : Stmt := top 59
abbrev nLawWord : List Str := ["purse", "found", "turn"]
theorem scLawWord : FnScope nLawWord ["purse"] (C8.fnScope sLawWord) := C8.fnScope_by (by decide +kernel)
abbrev sLawRowsOf : Stmt := top 60
abbrev nLawRowsOf : List Str := ["purse", "names", "many", "base", "found", "way", "turn", "row", "cut", "head", "name"]
theorem scLawRowsOf : FnScope nLawRowsOf ["purse", "names", "many"] (C8.fnScope sLawRowsOf) := C8.fnScope_by (by decide +kernel)
abbrev sLawLine : Stmt := top 61
abbrev nLawLine : List Str := ["purse", "names", "field", "name", "rest", "one"]
theorem scLawLine : FnScope nLawLine ["purse", "names"] (C8.fnScope sLawLine) := C8.fnScope_by (by decide +kernel)
abbrev sLawLineText : Stmt := top 62
abbrev nLawLineText : List Str := ["line", "middle"]
theorem scLawLineText : FnScope nLawLineText ["line"] (C8.fnScope sLawLineText) := C8.fnScope_by (by decide +kernel)
abbrev sLawWords : Stmt := top 63
abbrev nLawWords : List Str := ["purse", "many", "some", "fresh", "word"]
theorem scLawWords : FnScope nLawWords ["purse", "many"] (C8.fnScope sLawWords) := C8.fnScope_by (by decide +kernel)
abbrev sLawRoundsOf : Stmt := top 64
abbrev nLawRoundsOf : List Str := ["purse", "names", "many", "found", "turn", "field"]
theorem scLawRoundsOf : FnScope nLawRoundsOf ["purse", "names", "many"] (C8.fnScope sLawRoundsOf) := C8.fnScope_by (by decide +kernel)
abbrev sLawNamesRight : Stmt := top 65
abbrev nLawNamesRight : List Str := ["purse", "names", "some", "turn", "kept", "text"]
theorem scLawNamesRight : FnScope nLawNamesRight ["purse", "names"] (C8.fnScope sLawNamesRight) := C8.fnScope_by (by decide +kernel)
abbrev sLawLinesRight : Stmt := top 66
abbrev nLawLinesRight : List Str := ["purse", "names", "lines", "turn", "kept", "plainly", "line", "text", "book", "again"]
theorem scLawLinesRight : FnScope nLawLinesRight ["purse", "names"] (C8.fnScope sLawLinesRight) := C8.fnScope_by (by decide +kernel)
abbrev sLawPanelsRight : Stmt := top 67
abbrev nLawPanelsRight : List Str := ["purse", "names", "orders", "text", "row", "panel", "again"]
theorem scLawPanelsRight : FnScope nLawPanelsRight ["purse", "names"] (C8.fnScope sLawPanelsRight) := C8.fnScope_by (by decide +kernel)
abbrev sLawRoundsRight : Stmt := top 68
abbrev nLawRoundsRight : List Str := ["purse", "names", "some", "kept", "found", "field", "few", "text", "told"]
theorem scLawRoundsRight : FnScope nLawRoundsRight ["purse", "names"] (C8.fnScope sLawRoundsRight) := C8.fnScope_by (by decide +kernel)
abbrev sLaw : Stmt := top 69
abbrev nLaw : List Str := ["script", "names", "book", "wide", "sign", "panel", "purse"]
theorem scLaw : FnScope nLaw ["script"] (C8.fnScope sLaw) := C8.fnScope_by (by decide +kernel)
/-! ### names, fields -/
def LT : Str := "abcdefghijklmnopqrstuvwxyz"
/-- a name -/
def isName (z : Str) : Bool := decide (1 ≤ z.length ∧ z.length ≤ 8 ∧ ∀ c ∈ z.cps.toList, c ∈ LT.cps.toList)
/-- unlike names -/
def areNames (l : List Str) : Bool := decide ((∀ z ∈ l, isName z = true) ∧ l.Nodup)
def areEntries (l : List Str) : Bool := areNames l && !decide (l = [])
def isAscending (l : List Str) : Bool := areNames l && decide (l = sortS l)
def isLot (l es : List Str) : Bool := isAscending l && decide (∀ x ∈ l, x ∈ es)
def isField (l es : List Str) : Bool := isLot l es && !decide (l = [])
/-- texts that are handled: short enough, of code points that are some -/
def Zok (z : Str) : Prop := z.length ≤ 1000000 ∧ PyData.strOk z = true
def Lok (l : List Str) : Prop := (∀ z ∈ l, Zok z) ∧ l.length < 64
theorem Lok.lay {l : List Str} (h : Lok l) : Da.lay l := fun a ha => (h.1 a ha).2
theorem lay_nil {α : Type} [Rp α] [Da α] : Da.lay ([] : List α) := fun a h => by cases h
theorem Lok.sort {l : List Str} (h : Lok l) : Lok (sortS l) := ⟨fun z hz => h.1 z (mem_sortS.mp hz), by rw [sortS_length]; exact h.2⟩
theorem sz64 {n : Nat} (h : n < 64) : n < sizeLine := Nat.lt_trans h (by decide)
theorem mem_signs {z s : Str} : s ∈ signs z ↔ ∃ c ∈ z.cps.toList, s = ⟨#[c]⟩ := by
  unfold signs
  rw [List.mem_map]
  exact ⟨fun ⟨c, h, e⟩ => ⟨c, h, e.symm⟩, fun ⟨c, h, e⟩ => ⟨c, h, e.symm⟩⟩
theorem decide_ff {p : Prop} [Decidable p] (h : p → False) : decide p = false := decide_eq_false h
theorem strOk_sign {c : Nat} {z : Str} (h : PyData.strOk z = true) (hc : c ∈ z.cps.toList) : PyData.strOk ⟨#[c]⟩ = true := by
  unfold PyData.strOk at *
  rw [Array.all_eq_true_iff_forall_mem] at *
  intro x hx
  have e : x = c := by simpa using hx
  rw [e]
  exact h c (Array.mem_toList_iff.mp hc)
theorem filter_nil_iff {α : Type} {l : List α} {t : α → Bool} : l.filter t = [] ↔ ∀ x ∈ l, t x = false := by
  rw [List.filter_eq_nil_iff]
  exact ⟨fun h x hx => by simpa using h x hx, fun h x hx => by simpa using h x hx⟩
section
variable {P : Program} {w : World} {K : PySem.W.Frag} {mg : Str → Option Value} {base : Heap} {f : Addr} {fd : FuncData}
theorem c_is_name {t : Tok} (D : C8.Def K mg "is_name" sIsName f fd) (b : Binds K fd ["value"] []) (B : Bt mg) (hL : mg "LETTERS" = some (.str LT t)) :
    C8.Cal P w K mg base 1 "is_name" (P1 Zok isName) [] := by
  refine fn1 D b scIsName rfl fun cdv A outer s H E G v z hr r hz => ?_
  have hzl : z.length ≤ sizeLine := Nat.le_trans hz.1 (by decide)
  refine Bl.ite (EW.t (EW.or (ET.not (ET.val (Ev.isiStr B (Ev.v 0 rfl r)))) fun _ => EW.or (ET.lt (Ev.lenS B (Ev.v 0 rfl r) hzl) Ev.int) fun _ => EW.or1 (ET.gt (Ev.lenS B (Ev.v 0 rfl r) hzl) Ev.int))) (fun h => Bl.rv (Ev.bl.eq ?_)) fun h => Bl.rv (Ev.eq (Ev.eqD (by have := hr.units; exact this)
    (Ev.lcSel 1 (t := fun s => !decide (s.cps.getD 0 0 ∈ LT.cps.toList)) (EI.str (Ev.v 0 rfl r)) (fun d hd G' v' s1 r' s H C cl fp => ?_) ?_ scIsName.nd (blkOk_by (N := nIsName) (sc := C8.fnScope sIsName) (by decide +kernel))) Ev.nil ?_ lay_nil) ?_)
  · simp only [Bool.not_true, Bool.false_or, Bool.or_eq_true, decide_eq_true_eq] at h
    exact (decide_ff fun hh => by obtain ⟨h1, h2, _⟩ := hh; omega).symm
  · obtain ⟨c, hc, rfl⟩ := mem_signs.mp hd
    exact ETs_cast (ET.niS (Ev.v 1 rfl r') (Ev.gstr hL))
  · simp only [signs, List.length_map, Array.length_toList]
    exact Nat.lt_of_le_of_lt hz.1 (by decide)
  · intro a ha
    obtain ⟨c, hc, rfl⟩ := mem_signs.mp (List.mem_filter.mp ha).1
    exact strOk_sign hz.2 hc
  · simp only [Bool.not_true, Bool.false_or, Bool.or_eq_false_iff, decide_eq_false_iff_not] at h
    unfold isName
    rw [Bool.eq_iff_iff, decide_eq_true_eq, decide_eq_true_eq, filter_nil_iff]
    constructor
    · intro hh
      refine ⟨by omega, by omega, fun c hc => ?_⟩
      have := hh ⟨#[c]⟩ (mem_signs.mpr ⟨c, hc, rfl⟩)
      simpa using this
    · rintro ⟨_, _, hh⟩ x hx
      obtain ⟨c, hc, rfl⟩ := mem_signs.mp hx
      simpa using hh c hc
where
  ETs_cast {X : Cx} {e : Expr} {σ : St} {G : Hp} {c : Nat} {z : Str} (h : ET X e σ G (!decide (c ∈ z.cps.toList))) : ET X e σ G (!decide ((⟨#[c]⟩ : Str).cps.getD 0 0 ∈ z.cps.toList)) := h
end
section
variable {P : Program} {w : World} {K : PySem.W.Frag} {mg : Str → Option Value} {base : Heap} {f : Addr} {fd : FuncData}
theorem not_not_eq {b : Bool} (h : (!b) = false) : b = true := by cases b <;> simp_all
theorem c_are_names (D : C8.Def K mg "are_names" sAreNames f fd) (b : Binds K fd ["value"] []) (B : Bt mg) (cN : C8.Cal P w K mg base 1 "is_name" (P1 Zok isName) []) :
    C8.Cal P w K mg base 2 "are_names" (P1 Lok areNames) [] := by
  refine fn1 D b scAreNames rfl fun cdv A outer s H E G v l hr r hl => ?_
  refine Bl.ite (EW.t (EW.or (ET.not (ET.val (Ev.isiList B (Ev.v 0 rfl r)))) fun _ => EW.or1 (ET.neD hr.units
    (Ev.lcSel 1 (t := fun z => !isName z) (EI.list (Ev.v 0 rfl r)) (fun d hd G' v' s1 r' s H C cl fp => ET.not (ET.val (Ev.call1 cN hr (Ev.v 1 rfl r') (hl.1 d hd)))) (sz64 hl.2) scAreNames.nd (blkOk_by (N := nAreNames) (sc := C8.fnScope sAreNames) (by decide +kernel))) Ev.nil
    (fun a ha => hl.lay a (List.mem_filter.mp ha).1) lay_nil))) (fun h => Bl.rv (Ev.bl.eq ?_)) fun h => Bl.rv (Ev.eq (Ev.eqD hr.units (Ev.lenSet B (Ev.v 0 rfl r) (Nat.lt_trans hl.2 (by decide))) (Ev.lenL B (Ev.v 0 rfl r)) trivial trivial) ?_)
  · simp only [Bool.not_true, Bool.false_or, Bool.not_eq_true', decide_eq_false_iff_not, filter_nil_iff] at h
    refine (decide_ff fun hh => h fun x hx => ?_).symm
    rw [hh.1 x hx]; rfl
  · simp only [Bool.not_true, Bool.false_or, Bool.not_eq_false', decide_eq_true_eq, filter_nil_iff] at h
    unfold areNames
    rw [Bool.eq_iff_iff, decide_eq_true_eq, decide_eq_true_eq]
    constructor
    · intro hh
      exact ⟨fun z hz => by have := h z hz; simpa using this, (dds_length_iff l).mp (by omega)⟩
    · rintro ⟨_, hh⟩
      rw [dds_nodup hh]
theorem c_are_entries (D : C8.Def K mg "are_entries" sAreEntries f fd) (b : Binds K fd ["value"] []) (cN : C8.Cal P w K mg base 2 "are_names" (P1 Lok areNames) []) :
    C8.Cal P w K mg base 3 "are_entries" (P1 Lok areEntries) [] := by
  refine fn1 D b scAreEntries rfl fun cdv A outer s H E G v l hr r hl => ?_
  exact Bl.rv (Ev.and (Ev.call1 cN hr (Ev.v 0 rfl r) hl) fun _ => Ev.one (Ev.neD hr.units (Ev.v 0 rfl r) Ev.nil hl.lay lay_nil))
theorem c_is_ascending (D : C8.Def K mg "is_ascending" sIsAscending f fd) (b : Binds K fd ["value"] []) (B : Bt mg) (cN : C8.Cal P w K mg base 2 "are_names" (P1 Lok areNames) []) :
    C8.Cal P w K mg base 3 "is_ascending" (P1 Lok isAscending) [] := by
  refine fn1 D b scIsAscending rfl fun cdv A outer s H E G v l hr r hl => ?_
  exact Bl.rv (Ev.and (Ev.call1 cN hr (Ev.v 0 rfl r) hl) fun _ => Ev.one (Ev.eqD hr.units (Ev.v 0 rfl r) (Ev.sortedS B (Ev.v 0 rfl r) hl.2) hl.lay hl.sort.lay))
theorem c_is_lot (D : C8.Def K mg "is_lot" sIsLot f fd) (b : Binds K fd ["value", "entries"] []) (cA : C8.Cal P w K mg base 3 "is_ascending" (P1 Lok isAscending) []) :
    C8.Cal P w K mg base 4 "is_lot" (P2 (fun l es => Lok l ∧ Lok es) isLot) [] := by
  refine fn2 D b scIsLot rfl fun cdv A outer s H E G u v l es hr r1 r2 h => ?_
  refine Bl.rv (Ev.and (Ev.call1 cA hr (Ev.v 0 rfl r1) h.1) fun _ => Ev.eq (Ev.one (Ev.eqD hr.units
    (Ev.lcSel 2 (t := fun z => !decide (z ∈ es)) (EI.list (Ev.v 0 rfl r1)) (fun d hd G' v' s1 r' s H C cl fp => ET.niD hr.units65 (Ev.v 2 rfl r') (Ev.v 1 rfl (rup s1 r2)) (h.1.1 d hd).2 h.2.lay) (sz64 h.1.2) scIsLot.nd (blkOk_by (N := nIsLot) (sc := C8.fnScope sIsLot) (by decide +kernel))) Ev.nil
    (fun a ha => h.1.lay a (List.mem_filter.mp ha).1) lay_nil)) ?_)
  rw [Bool.eq_iff_iff, decide_eq_true_eq, decide_eq_true_eq, filter_nil_iff]
  exact ⟨fun hh x hx => by simpa using hh x hx, fun hh x hx => by simpa using hh x hx⟩
theorem c_is_field (D : C8.Def K mg "is_field" sIsField f fd) (b : Binds K fd ["value", "entries"] []) (cL : C8.Cal P w K mg base 4 "is_lot" (P2 (fun l es => Lok l ∧ Lok es) isLot) []) :
    C8.Cal P w K mg base 5 "is_field" (P2 (fun l es => Lok l ∧ Lok es) isField) [] := by
  refine fn2 D b scIsField rfl fun cdv A outer s H E G u v l es hr r1 r2 h => ?_
  exact Bl.rv (Ev.and (Ev.call2 cL hr (Ev.v 0 rfl r1) (Ev.v 1 rfl r2) h) fun _ => Ev.one (Ev.neD hr.units (Ev.v 0 rfl r1) Ev.nil h.1.lay lay_nil))
theorem c_check_entries (D : C8.Def K mg "check_entries" sCheckEntries f fd) (b : Binds K fd ["value"] []) (cE : C8.Cal P w K mg base 3 "are_entries" (P1 Lok areEntries) []) :
    C8.Cal P w K mg base 4 "check_entries" (P1 (fun l => Lok l ∧ areEntries l = true) (fun _ => ())) [] := by
  refine fn1 D b scCheckEntries rfl fun cdv A outer s H E G v l hr r h => ?_
  exact Bl.ifF (ET.eq (ET.not (ET.val (Ev.call1 cE hr (Ev.v 0 rfl r) h.1))) (by rw [h.2]; rfl)) (Bl.nil fun _ _ => rfl)
end
end T91

namespace T91
open PySem L2 D1 Rp
/-! ### panels -/
/-- the places of the entries in a row, as a dict -/
def spotsOf (row : List Str) : DctS Int := ⟨(enumd row).map fun p => (p.2, p.1)⟩
def isRow (v es : List Str) : Bool := areNames v && decide (sortS v = sortS es)
def areRows (rs : List (List Str)) (es : List Str) : Bool := decide (∀ r ∈ rs, isRow r es = true)
/-- a panel of the class at C -/
structure Pan (C : Addr) where
  names : List Str
  orders : List (List Str)
  deriving DecidableEq
def panF (vn vo vs : V) : List (Str × V) := putF "spots" vs (putF "orders" vo (putF "names" vn []))
theorem panF_n {vn vo vs : V} : (panF vn vo vs).lookup ("names" : Str) = some vn := by
  unfold panF
  rw [lookup_putF, if_neg (by decide +kernel), lookup_putF, if_neg (by decide +kernel), lookup_putF, if_pos rfl]
theorem panF_o {vn vo vs : V} : (panF vn vo vs).lookup ("orders" : Str) = some vo := by
  unfold panF
  rw [lookup_putF, if_neg (by decide +kernel), lookup_putF, if_pos rfl]
theorem panF_s {vn vo vs : V} : (panF vn vo vs).lookup ("spots" : Str) = some vs := by
  unfold panF
  rw [lookup_putF, if_pos rfl]
theorem panF_no {vn vo vs : V} {m : Str} (h1 : ¬ m = "names") (h2 : ¬ m = "orders") (h3 : ¬ m = "spots") : List.lookup m (panF vn vo vs) = none := by
  unfold panF
  rw [lookup_putF, if_neg h3, lookup_putF, if_neg h2, lookup_putF, if_neg h1]
  rfl
instance {C : Addr} : Rp (Pan C) := ⟨fun H v d => ∃ p dx vn vo vs, v = .ref p ∧ H p = some (.ins C dx (panF vn vo vs)) ∧ rp H vn d.names ∧ rp H vo d.orders ∧ rp H vs (d.orders.map spotsOf),
  fun s ⟨p, dx, vn, vo, vs, e, h, r1, r2, r3⟩ => ⟨p, dx, vn, vo, vs, e, s _ _ h, rup s r1, rup s r2, rup s r3⟩⟩
instance {C : Addr} : In1 (Pan C) C := ⟨fun ⟨p, dx, vn, vo, vs, e, h, _⟩ => ⟨p, dx, _, e, h⟩⟩
instance {C : Addr} : Ri (Pan C) := ⟨fun {H v a b} ⟨p, dx, vn, vo, vs, e, h, r1, r2, r3⟩ ⟨p', dx', vn', vo', vs', e', h', r1', r2', r3'⟩ => by
  subst e
  cases e'
  rw [h] at h'
  have hf : panF vn vo vs = panF vn' vo' vs' := by injection h' with h'; injection h'
  have e1 : vn = vn' := by have := congrArg (fun l => List.lookup ("names" : Str) l) hf; simpa [panF_n] using this
  have e2 : vo = vo' := by have := congrArg (fun l => List.lookup ("orders" : Str) l) hf; simpa [panF_o] using this
  subst e1 e2
  obtain ⟨a1, a2⟩ := a
  obtain ⟨b1, b2⟩ := b
  have e3 : a1 = b1 := Ri.inj r1 r1'
  have e4 : a2 = b2 := Ri.inj r2 r2'
  rw [e3, e4]⟩
/-- what the top has made of the class -/
structure PanT (K : PySem.W.Frag) (mg : Str → Option Value) (C : Addr) : Prop where
  cl : Cls K C
  nN : NoAttr K C "names"
  nO : NoAttr K C "orders"
  nS : NoAttr K C "spots"
  mgC : mg "Panel" = some (.ref C)
  isi : C8.InsC K C
theorem panN {K : PySem.W.Frag} {mg : Str → Option Value} {C : Addr} (T : PanT K mg C) (d : Pan C) : FldOf K "names" d d.names := fun H v ⟨p, dx, vn, vo, vs, e, h, r1, _⟩ => ⟨p, C, dx, _, vn, e, h, T.cl, T.nN, panF_n, r1⟩
theorem panO {K : PySem.W.Frag} {mg : Str → Option Value} {C : Addr} (T : PanT K mg C) (d : Pan C) : FldOf K "orders" d d.orders := fun H v ⟨p, dx, vn, vo, vs, e, h, _, r2, _⟩ => ⟨p, C, dx, _, vo, e, h, T.cl, T.nO, panF_o, r2⟩
theorem panS {K : PySem.W.Frag} {mg : Str → Option Value} {C : Addr} (T : PanT K mg C) (d : Pan C) : FldOf K "spots" d (d.orders.map spotsOf) := fun H v ⟨p, dx, vn, vo, vs, e, h, _, _, r3⟩ => ⟨p, C, dx, _, vs, e, h, T.cl, T.nS, panF_s, r3⟩
theorem panM {C : Addr} {m : Str} (d : Pan C) (h1 : ¬ m = "names") (h2 : ¬ m = "orders") (h3 : ¬ m = "spots") : MthOf C m d := fun H v ⟨p, dx, vn, vo, vs, e, h, _⟩ => ⟨p, dx, _, e, h, panF_no h1 h2 h3⟩
/-- rows that are handled -/
def Rok (rs : List (List Str)) : Prop := (∀ r ∈ rs, Lok r) ∧ rs.length < 4000
theorem Rok.lay {rs : List (List Str)} (h : Rok rs) : Da.lay rs := fun r hr => (h.1 r hr).lay
theorem Rok.sz {rs : List (List Str)} (h : Rok rs) : rs.length < sizeLine := Nat.lt_trans h.2 (by decide)
/-- a panel that is handled -/
def PanOk {C : Addr} (p : Pan C) : Prop := Lok p.names ∧ Rok p.orders
def panPre (es : List Str) (rs : List (List Str)) : Prop := Lok es ∧ areEntries es = true ∧ Rok rs ∧ areRows rs es = true ∧ rs ≠ []
theorem enumd_snd {α : Type} (l : List α) : (enumd l).map (·.2) = l := by
  apply List.ext_getElem?
  intro i
  rw [List.getElem?_map]
  cases e : l[i]? with
  | none =>
    have : (enumd l)[i]? = none := by rw [List.getElem?_eq_none_iff, enumd_len]; exact List.getElem?_eq_none_iff.mp e
    rw [this]; rfl
  | some x => rw [enumd_at e]; rfl
section
variable {P : Program} {w : World} {K : PySem.W.Frag} {mg : Str → Option Value} {base : Heap} {f C : Addr} {fd : FuncData}
theorem c_spots_of (D : C8.Def K mg "spots_of" sSpotsOf f fd) (b : Binds K fd ["row"] []) (B : Bt mg) :
    C8.Cal P w K mg base 1 "spots_of" (P1 (fun l => Lok l ∧ l.Nodup) spotsOf) [] := by
  refine fn1 D b scSpotsOf rfl fun cdv A outer s H E G v l hr r h => ?_
  refine Bl.rv (Ev.dictP B (Ev.lcMap2 1 2 (f := fun p => (p.2, p.1)) (EI.enum B.enumerate (Ev.v 0 rfl r)) (fun d hd G' u' w' s1 r1 r2 s H C cl fp => Ev.tup2 (Ev.v 2 rfl r2) (Ev.v 1 rfl r1)) (by rw [enumd_len]; exact sz64 h.1.2) scSpotsOf.nd (blkOk_by (N := nSpotsOf) (sc := C8.fnScope sSpotsOf) (by decide +kernel))
    (hg := fun s H C cl fp => pg_two rfl scSpotsOf.nd rfl rfl (Or.inl rfl) (Or.inl rfl) (Or.inr rfl) (Or.inr rfl))) ?_)
  rw [List.map_map]
  have e : (enumd l).map ((fun x => x.1) ∘ fun p => (p.2, p.1)) = l := enumd_snd l
  rw [e]
  exact h.2
theorem c_is_row (D : C8.Def K mg "is_row" sIsRow f fd) (b : Binds K fd ["value", "entries"] []) (B : Bt mg) (cN : C8.Cal P w K mg base 2 "are_names" (P1 Lok areNames) []) :
    C8.Cal P w K mg base 3 "is_row" (P2 (fun l es => Lok l ∧ Lok es) isRow) [] := by
  refine fn2 D b scIsRow rfl fun cdv A outer s H E G u v l es hr r1 r2 h => ?_
  exact Bl.rv (Ev.and (Ev.call1 cN hr (Ev.v 0 rfl r1) h.1) fun _ => Ev.one (Ev.eqD hr.units (Ev.sortedS B (Ev.v 0 rfl r1) h.1.2) (Ev.sortedS B (Ev.v 1 rfl r2) h.2.2) h.1.sort.lay h.2.sort.lay))
theorem c_are_rows (D : C8.Def K mg "are_rows" sAreRows f fd) (b : Binds K fd ["value", "entries"] []) (B : Bt mg) (cR : C8.Cal P w K mg base 3 "is_row" (P2 (fun l es => Lok l ∧ Lok es) isRow) []) :
    C8.Cal P w K mg base 4 "are_rows" (P2 (fun l es => Rok l ∧ Lok es) areRows) [] := by
  refine fn2 D b scAreRows rfl fun cdv A outer s H E G u v l es hr r1 r2 h => ?_
  refine Bl.rv (Ev.eq (Ev.and (Ev.isiList B (Ev.v 0 rfl r1)) fun _ => Ev.one (Ev.eqD hr.units
    (Ev.lcSel 2 (t := fun r => !isRow r es) (EI.list (Ev.v 0 rfl r1)) (fun d hd G' v' s1 r' s H C cl fp => ET.not (ET.val (Ev.call2 cR hr (Ev.v 2 rfl r') (Ev.v 1 rfl (rup s1 r2)) ⟨h.1.1 d hd, h.2⟩))) h.1.sz scAreRows.nd (blkOk_by (N := nAreRows) (sc := C8.fnScope sAreRows) (by decide +kernel))) Ev.nil
    (fun a ha => h.1.lay a (List.mem_filter.mp ha).1) lay_nil)) ?_)
  rw [Bool.true_and]
  unfold areRows
  rw [Bool.eq_iff_iff, decide_eq_true_eq, decide_eq_true_eq, filter_nil_iff]
  exact ⟨fun hh x hx => by simpa using hh x hx, fun hh x hx => by simpa using hh x hx⟩
theorem areNames_nodup {l : List Str} (h : areNames l = true) : l.Nodup := (of_decide_eq_true h).2
theorem isRow_nodup {l es : List Str} (h : isRow l es = true) : l.Nodup := by
  unfold isRow at h
  rw [Bool.and_eq_true] at h
  exact areNames_nodup h.1
theorem m_panel (F : C8.Fun K "__init__" "Panel.__init__" sPanelInit f fd) (b : Binds K fd ["self", "entries", "rows"] []) (M : Mk K C f) (B : Bt mg) (T : PanT K mg C) (cE : C8.Cal P w K mg base 4 "check_entries" (P1 (fun l => Lok l ∧ areEntries l = true) (fun _ => ())) [])
    (cR : C8.Cal P w K mg base 4 "are_rows" (P2 (fun l es => Rok l ∧ Lok es) areRows) []) (cS : C8.Cal P w K mg base 1 "spots_of" (P1 (fun l => Lok l ∧ l.Nodup) spotsOf) []) :
    C8.Mak P w K mg base 5 "Panel" C (PI2 C panPre (fun es rs => (⟨sortS es, rs⟩ : Pan C))) [] := by
  refine C8.mak0 M T.mgC F b .nil scPanelInit (fun vs H Q E h => ?_) fun cdv A outer s H vs Q E hr h => ?_
  · obtain ⟨G, x, dx, u, v, es, rs, rfl, _⟩ := h
    rfl
  · obtain ⟨G, x, dx, u, v, es, rs, rfl, hx, gx, sG, r1, r2, ⟨h1, h2, h3, h4, h5⟩, kk⟩ := h
    refine ⟨_, pss_ws, ?_⟩
    refine ws_expr (Same.refl G) sG (Ev.call1 cE hr (Ev.v 1 rfl r1) ⟨h1, h2⟩) fun G2 H2 g2 => ?_
    refine ws_ifF g2.g g2.s (ET.eq (EW.t (EW.or (ET.not (ET.val (Ev.call2 cR hr (Ev.v 2 rfl r2) (Ev.v 1 rfl r1) ⟨h3, h1⟩))) fun _ => EW.or1 (ET.eqD hr.units (Ev.v 2 rfl r2) Ev.nil h3.lay lay_nil))) (by rw [h4, decide_eq_false h5]; rfl)) fun G3 H3 g3 => ?_
    have g03 := g2.trans g3
    have hx3 := g03.hh _ _ hx
    have gx3 := g03.f x gx (by rw [hx]; exact fun z => nomatch z)
    refine ws_fld 0 g03.g g3.s rfl hx3 gx3 T.cl T.nN (by show 0 < 1000; decide) (Ev.sortedS B (Ev.v 1 rfl r1) h1.2) fun G4 H4 v4 g4 hx4 r4 => ?_
    have gx4 := g4.f x gx3 (by rw [hx3]; exact fun z => nomatch z)
    refine ws_fld 0 (g03.g.trans g4.g) g4.s rfl hx4 gx4 T.cl T.nO (by show 1 < 1000; decide) (Ev.lcMap 3 (EI.list (Ev.v 2 rfl r2)) (fun d hd G' v' s1 r' s H C cl fp => Ev.listOf B (Ev.v 3 rfl r')) h3.sz scPanelInit.nd (blkOk_by (N := nPanelInit) (sc := C8.fnScope sPanelInit) (by decide +kernel))) fun G5 H5 v5 g5 hx5 r5 => ?_
    have gx5 := g5.f x gx4 (by rw [hx4]; exact fun z => nomatch z)
    refine ws_fld 0 (g03.g.trans (g4.trans g5).g) g5.s rfl hx5 gx5 T.cl T.nS (by show (putF "orders" v5 (putF "names" v4 [])).length < 1000; exact panlen) (Ev.lcMap 3 (EI.list (Ev.v 2 rfl r2)) (fun d hd G' v' s1 r' s H C cl fp => Ev.call1 cS hr (Ev.v 3 rfl r') ⟨h3.1 d hd, isRow_nodup (of_decide_eq_true h4 d hd)⟩) h3.sz scPanelInit.nd (blkOk_by (N := nPanelInit) (sc := C8.fnScope sPanelInit) (by decide +kernel))) fun G6 H6 v6 g6 hx6 r6 => ?_
    have gx6 := g6.f x gx5 (by rw [hx5]; exact fun z => nomatch z)
    refine ws_nil (kk G6 H6 _ (g03.any.trans (g4.trans (g5.trans g6))) hx6 ?_)
    have sm : Same G6 (upd G6 x (.ins C dx (panF v4 v5 v6))) := same_new gx6
    refine ⟨x, dx, v4, v5, v6, rfl, upd_same, rup ((g5.trans g6).g.trans sm) r4, rup (g6.g.trans sm) ?_, rup sm r6⟩
    rw [List.map_id'] at r5
    exact r5
where
  panlen {v4 v5 : V} : (putF "orders" v5 (putF "names" v4 [])).length < 1000 := by
    show (if ("names" : Str) = "orders" then _ else _ :: _ : List (Str × V)).length < 1000
    split <;> simp [putF]
theorem m_panel_rows (F : C8.Fun K "rows" "Panel.rows" sPanelRows f fd) (b : Binds K fd ["self"] []) (me : Meth K C "rows" f) (B : Bt mg) (T : PanT K mg C) :
    C8.Met P w K mg base 1 C "rows" (P1 (fun p : Pan C => Rok p.orders) (fun p => p.orders)) [] := by
  refine ⟨f, fd, _, [], T.cl, me, fk1 F scPanelRows rfl (fun cdv A outer s H E G v d hr r h => ?_), b, .nil⟩
  refine Bl.rv (Ev.eq (Ev.lcMap 1 (f := fun r => r) (EI.list (Ev.fld (panO T d) (Ev.v 0 rfl r))) (fun d hd G' v' s1 r' s H C cl fp => Ev.listOf B (Ev.v 1 rfl r')) h.sz scPanelRows.nd (blkOk_by (N := nPanelRows) (sc := C8.fnScope sPanelRows) (by decide +kernel))) (List.map_id' _))
theorem k_panel_eq (F : C8.Fun K "__eq__" "Panel.__eq__" sPanelEq f fd) (B : Bt mg) (T : PanT K mg C) :
    FnOk P w K mg base C8.CX0 1 f fd ["self", "other"] (P2 (fun a b : Pan C => PanOk a ∧ PanOk b) (fun a b => decide (a = b))) := by
  refine fk2 F scPanelEq rfl fun cdv A outer s H E G u v a b hr r1 r2 h => ?_
  refine Bl.rv (Ev.eq (Ev.and (Ev.isC B T.isi T.mgC (Ev.v 1 rfl r2)) fun _ => Ev.one (Ev.eqD hr.units (Ev.tup2 (Ev.fld (panN T a) (Ev.v 0 rfl r1)) (Ev.fld (panO T a) (Ev.v 0 rfl r1))) (Ev.tup2 (Ev.fld (panN T b) (Ev.v 1 rfl r2)) (Ev.fld (panO T b) (Ev.v 1 rfl r2)))
    (by exact ⟨h.1.1.lay, h.1.2.lay⟩) (by exact ⟨h.2.1.lay, h.2.2.lay⟩))) ?_)
  obtain ⟨a1, a2⟩ := a
  obtain ⟨b1, b2⟩ := b
  simp [Pan.mk.injEq]
theorem c_check_panel (D : C8.Def K mg "check_panel" sCheckPanel f fd) (b : Binds K fd ["value"] []) (B : Bt mg) (T : PanT K mg C) :
    C8.Cal P w K mg base 1 "check_panel" (P1 (fun _ : Pan C => True) (fun _ => ())) [] := by
  refine fn1 D b scCheckPanel rfl fun cdv A outer s H E G v d hr r _ => ?_
  exact Bl.ifF (ET.eq (ET.not (ET.val (Ev.isC B T.isi T.mgC (Ev.v 0 rfl r)))) rfl) (Bl.nil fun _ _ => rfl)
end
end T91

namespace T91
open PySem L2 D1 Rp
/-! ### books -/
abbrev Ln := T3 Str (List Str) Str
def isLine (t : Ln) (ns : List Str) : Bool :=
  decide (t.a = "call" ∨ t.a = "off") && (isField t.b ns && (isName t.c && (decide (t.c ∈ ns) && decide (decide (t.c ∈ t.b) = decide (t.a = "call")))))
/-- a line that is handled -/
def LnOk (t : Ln) : Prop := Zok t.a ∧ Lok t.b ∧ Zok t.c
theorem LnOk.lay {t : Ln} (h : LnOk t) : Da.lay t := ⟨h.1.2, h.2.1.lay, h.2.2.2⟩
def LnsOk (l : List Ln) : Prop := (∀ t ∈ l, LnOk t) ∧ l.length < 4000
theorem LnsOk.lay {l : List Ln} (h : LnsOk l) : Da.lay l := fun t ht => (h.1 t ht).lay
theorem LnsOk.sz {l : List Ln} (h : LnsOk l) : l.length < sizeLine := Nat.lt_trans h.2 (by decide)
/-- a book of the class at C -/
structure Bk (C : Addr) where
  names : List Str
  told : List Ln
  deriving DecidableEq
def bkF (vn vt : V) : List (Str × V) := putF "told" vt (putF "names" vn [])
theorem bkF_n {vn vt : V} : (bkF vn vt).lookup ("names" : Str) = some vn := by
  unfold bkF
  rw [lookup_putF, if_neg (by decide +kernel), lookup_putF, if_pos rfl]
theorem bkF_t {vn vt : V} : (bkF vn vt).lookup ("told" : Str) = some vt := by
  unfold bkF
  rw [lookup_putF, if_pos rfl]
theorem bkF_no {vn vt : V} {m : Str} (h1 : ¬ m = "names") (h2 : ¬ m = "told") : List.lookup m (bkF vn vt) = none := by
  unfold bkF
  rw [lookup_putF, if_neg h2, lookup_putF, if_neg h1]
  rfl
instance {C : Addr} : Rp (Bk C) := ⟨fun H v d => ∃ p dx vn vt, v = .ref p ∧ H p = some (.ins C dx (bkF vn vt)) ∧ rp H vn d.names ∧ rp H vt d.told,
  fun s ⟨p, dx, vn, vt, e, h, r1, r2⟩ => ⟨p, dx, vn, vt, e, s _ _ h, rup s r1, rup s r2⟩⟩
instance {C : Addr} : In1 (Bk C) C := ⟨fun ⟨p, dx, vn, vt, e, h, _⟩ => ⟨p, dx, _, e, h⟩⟩
instance {C : Addr} : Ri (Bk C) := ⟨fun {H v a b} ⟨p, dx, vn, vt, e, h, r1, r2⟩ ⟨p', dx', vn', vt', e', h', r1', r2'⟩ => by
  subst e
  cases e'
  rw [h] at h'
  have hf : bkF vn vt = bkF vn' vt' := by injection h' with h'; injection h'
  have e1 : vn = vn' := by have := congrArg (fun l => List.lookup ("names" : Str) l) hf; simpa [bkF_n] using this
  have e2 : vt = vt' := by have := congrArg (fun l => List.lookup ("told" : Str) l) hf; simpa [bkF_t] using this
  subst e1 e2
  obtain ⟨a1, a2⟩ := a
  obtain ⟨b1, b2⟩ := b
  have e3 : a1 = b1 := Ri.inj r1 r1'
  have e4 : a2 = b2 := Ri.inj r2 r2'
  rw [e3, e4]⟩
structure BkT (K : PySem.W.Frag) (mg : Str → Option Value) (C : Addr) : Prop where
  cl : Cls K C
  nN : NoAttr K C "names"
  nT : NoAttr K C "told"
  mgC : mg "Book" = some (.ref C)
  isi : C8.InsC K C
theorem bkN {K : PySem.W.Frag} {mg : Str → Option Value} {C : Addr} (T : BkT K mg C) (d : Bk C) : FldOf K "names" d d.names := fun H v ⟨p, dx, vn, vt, e, h, r1, _⟩ => ⟨p, C, dx, _, vn, e, h, T.cl, T.nN, bkF_n, r1⟩
theorem bkTo {K : PySem.W.Frag} {mg : Str → Option Value} {C : Addr} (T : BkT K mg C) (d : Bk C) : FldOf K "told" d d.told := fun H v ⟨p, dx, vn, vt, e, h, _, r2⟩ => ⟨p, C, dx, _, vt, e, h, T.cl, T.nT, bkF_t, r2⟩
theorem bkM {C : Addr} {m : Str} (d : Bk C) (h1 : ¬ m = "names") (h2 : ¬ m = "told") : MthOf C m d := fun H v ⟨p, dx, vn, vt, e, h, _⟩ => ⟨p, dx, _, e, h, bkF_no h1 h2⟩
def BkOk {C : Addr} (b : Bk C) : Prop := Lok b.names ∧ LnsOk b.told
def areLines (ls : List Ln) (es : List Str) : Bool := decide (∀ t ∈ ls, isLine t es = true)
def bkPre (es : List Str) (ls : List Ln) : Prop := Lok es ∧ areEntries es = true ∧ LnsOk ls ∧ areLines ls es = true
def mkBk {C : Addr} (es : List Str) (ls : List Ln) : Bk C := ⟨sortS es, dedup (sortD ls)⟩
section
variable {P : Program} {w : World} {K : PySem.W.Frag} {mg : Str → Option Value} {base : Heap} {f C : Addr} {fd : FuncData}
theorem c_is_line (D : C8.Def K mg "is_line" sIsLine f fd) (b : Binds K fd ["value", "names"] []) (B : Bt mg) (cF : C8.Cal P w K mg base 5 "is_field" (P2 (fun l es => Lok l ∧ Lok es) isField) []) (cN : C8.Cal P w K mg base 1 "is_name" (P1 Zok isName) []) :
    C8.Cal P w K mg base 6 "is_line" (P2 (fun t es => LnOk t ∧ Lok es) isLine) [] := by
  refine fn2 D b scIsLine rfl fun cdv A outer s H E G u v t es hr r1 r2 h => ?_
  refine Bl.ifF (ET.eq (EW.t (EW.or (ET.not (ET.val (Ev.isiT3 B (Ev.v 0 rfl r1)))) fun _ => EW.or (ET.neD hr.units (Ev.len3 B (Ev.v 0 rfl r1)) Ev.int trivial trivial) fun _ => EW.or1 (ET.not (ET.val (Ev.isiStr B (Ev.ix30 (Ev.v 0 rfl r1))))))) (by decide)) ?_
  refine Bl.asg3 2 3 4 (Ev.v 0 rfl r1) (fun G' x y z s1 q1 q2 q3 => ?_) scIsLine.nd
  have r2' := rup s1 r2
  refine Bl.ite (EW.t (EW.or (ET.niT2 (Ev.v 2 rfl q1) (Ev.tup2 Ev.str Ev.str)) fun _ => EW.or (ET.not (ET.val (Ev.call2 cF hr (Ev.v 3 rfl q2) (Ev.v 1 rfl r2') ⟨h.1.2.1, h.2⟩))) fun _ => EW.or (ET.not (ET.val (Ev.call1 cN hr (Ev.v 4 rfl q3) h.1.2.2))) fun _ => EW.or1 (ET.niD hr.units65 (Ev.v 4 rfl q3) (Ev.v 1 rfl r2') h.1.2.2.2 h.2.lay)))
    (fun hh => Bl.rv (Ev.bl.eq ?_)) fun hh => Bl.rv (Ev.eq (Ev.eqD hr.units (Ev.inD hr.units65 (Ev.v 4 rfl q3) (Ev.v 3 rfl q2) h.1.2.2.2 h.1.2.1.lay) (Ev.eqD hr.units (Ev.v 2 rfl q1) Ev.str h.1.1.2 (show PyData.strOk ("call" : Str) = true by decide +kernel)) trivial trivial) ?_)
  · unfold isLine
    revert hh
    cases decide (t.a = "call" ∨ t.a = "off") <;> cases isField t.b es <;> cases isName t.c <;> cases decide (t.c ∈ es) <;> simp
  · unfold isLine
    revert hh
    cases decide (t.a = "call" ∨ t.a = "off") <;> cases isField t.b es <;> cases isName t.c <;> cases decide (t.c ∈ es) <;> simp
theorem c_copied (D : C8.Def K mg "copied" sCopied f fd) (b : Binds K fd ["line"] []) (B : Bt mg) :
    C8.Cal P w K mg base 1 "copied" (P1 (fun _ : Ln => True) (fun t => t)) [] := by
  refine fn1 D b scCopied rfl fun cdv A outer s H E G v t hr r _ => ?_
  exact Bl.rv (Ev.tup3 (Ev.ix30 (Ev.v 0 rfl r)) (Ev.listOf B (Ev.ix31 (Ev.v 0 rfl r))) (Ev.ix32 (Ev.v 0 rfl r)))
theorem m_book (F : C8.Fun K "__init__" "Book.__init__" sBookInit f fd) (b : Binds K fd ["self", "entries", "lines"] []) (M : Mk K C f) (B : Bt mg) (T : BkT K mg C) (cE : C8.Cal P w K mg base 3 "are_entries" (P1 Lok areEntries) [])
    (cL : C8.Cal P w K mg base 6 "is_line" (P2 (fun t es => LnOk t ∧ Lok es) isLine) []) (cC : C8.Cal P w K mg base 1 "copied" (P1 (fun _ : Ln => True) (fun t => t)) []) :
    C8.Mak P w K mg base 7 "Book" C (PI2 C bkPre (mkBk : List Str → List Ln → Bk C)) [] := by
  refine C8.mak0 M T.mgC F b .nil scBookInit (fun vs H Q E h => ?_) fun cdv A outer s H vs Q E hr h => ?_
  · obtain ⟨G, x, dx, u, v, es, rs, rfl, _⟩ := h
    rfl
  · obtain ⟨G, x, dx, u, v, es, ls, rfl, hx, gx, sG, r1, r2, ⟨h1, h2, h3, h4⟩, kk⟩ := h
    refine ⟨_, pss_ws, ?_⟩
    refine ws_ifF (Same.refl G) sG (ET.eq (ET.not (ET.val (Ev.call1 cE hr (Ev.v 1 rfl r1) h1))) (by rw [h2]; rfl)) fun G2 H2 g2 => ?_
    refine ws_ifF g2.g g2.s (ET.eq (EW.t (EW.or (ET.not (ET.val (Ev.isiList B (Ev.v 2 rfl r2)))) fun _ => EW.or1 (ET.neD hr.units
      (Ev.lcSel 3 (t := fun t => !isLine t es) (EI.list (Ev.v 2 rfl r2)) (fun d hd G' v' s1 r' s H C cl fp => ET.not (ET.val (Ev.call2 cL hr (Ev.v 3 rfl r') (Ev.v 1 rfl (rup s1 r1)) ⟨h3.1 d hd, h1⟩))) h3.sz scBookInit.nd (blkOk_by (N := nBookInit) (sc := C8.fnScope sBookInit) (by decide +kernel))) Ev.nil
      (fun a ha => h3.lay a (List.mem_filter.mp ha).1) lay_nil))) (by
        have e : ls.filter (fun t => !isLine t es) = [] := filter_nil_iff.mpr fun t ht => by rw [of_decide_eq_true h4 t ht]; rfl
        rw [e]; rfl)) fun G3 H3 g3 => ?_
    have g03 := g2.trans g3
    have hx3 := g03.hh _ _ hx
    have gx3 := g03.f x gx (by rw [hx]; exact fun z => nomatch z)
    refine ws_fld 0 g03.g g3.s rfl hx3 gx3 T.cl T.nN (by show 0 < 1000; decide) (Ev.sortedS B (Ev.v 1 rfl r1) h1.2) fun G4 H4 v4 g4 hx4 r4 => ?_
    have gx4 := g4.f x gx3 (by rw [hx3]; exact fun z => nomatch z)
    have g04 : GrM (fun q => q = x) G H G4 H4 := g03.any.trans g4
    -- self.told = []: a list of its own, not standing
    refine WS.cons (ps_fld (pv 0) (pe_lst pa_nil) rfl) ⟨small_sz (n := 0), fun tl htl => ?_⟩
    have xtl : x ≠ tl := ne_of_none hx4 htl
    refine ⟨_, rfl, x, C, dx, _, rfl, (by rw [upd_ne xtl]; exact hx4), T.cl, T.nT, (by show 1 < 1000; decide), ?_⟩
    have gtl : G4 tl = none := g04.s.free htl
    have g05 : GrM (fun q => q = x) G H G4 (upd (upd H4 tl (.lst [])) x (.ins C dx (bkF v4 (.ref tl)))) := g04.trans ((Gr.newM g4.s htl).any.trans (GrM.put (Gr.newM (o := .lst []) g4.s htl).s gx4 rfl))
    have tl0 : H tl = none := g04.fresh htl
    refine ws_for (fun i σ' G' H' => ∃ acc lv, σ' = [some (.ref x), some u, some v, lv] ∧ GrM (fun q => q = x) G H G' H' ∧ Same G4 G' ∧ G' x = none ∧ G' tl = none ∧ H' x = some (.ins C dx (bkF v4 (.ref tl))) ∧ H' tl = some (.lst acc) ∧ Paired (rp G') acc (dedup ((sortD ls).take i)))
      (G := G4) (Same.refl G4) g05.s (EI.list (Ev.sortedD B hr.units (Ev.v 2 rfl (rup g04.g r2)))) tgB1 (pg_name (i := 3) scBookInit.nd rfl (Or.inl rfl))
      (fun G6 H6 g6 => ⟨[], none, rfl, g05.trans g6.any, g6.g, g6.f x gx4 (by rw [upd_same]; exact fun z => nomatch z), g6.f tl gtl (by rw [upd_ne (Ne.symm xtl), upd_same]; exact fun z => nomatch z), g6.hh _ _ upd_same, g6.hh _ _ (by rw [upd_ne (Ne.symm xtl), upd_same]), .nil⟩) ?_ ?_ PassesOwn.never
    · rintro i c σ1 G6 H6 hc s46 s66 ⟨acc, lv, rfl, gA, sA, nx, nt, hx6, ht6, pr⟩ G7 H7 σ2 g7 ⟨lw, rl, rfl⟩
      have hcl : c ∈ ls := mem_sortD.mp (List.mem_of_getElem? hc)
      have hx7 := g7.hh _ _ hx6
      have ht7 := g7.hh _ _ ht6
      have pr7 : Paired (rp G7) acc (dedup ((sortD ls).take i)) := pmono pr fun _ _ => rup g7.g
      have nx7 := g7.f x nx (by rw [hx6]; exact fun z => nomatch z)
      have nt7 := g7.f tl nt (by rw [ht6]; exact fun z => nomatch z)
      have hsub : ∀ y ∈ dedup ((sortD ls).take i), y ∈ ls := fun y hy => mem_sortD.mp (List.mem_of_mem_take (mem_dedup.mp hy))
      have hlen : acc.length < 4000 := by
        have e1 := pr.length
        have e2 := dedup_length ((sortD ls).take i)
        rw [List.length_take, sortD_length] at e2
        have := h3.2
        omega
      refine ws_ifW (WT.of (pt_cmpR (op_notInD hr.units65) (pv 3) (pe_fld (pv 0) rfl) rfl) ⟨lw, rfl, .ref x, rfl, x, C, dx, _, .ref tl, rfl, hx7, T.cl, T.nT, bkF_t, Da.toD c, _, Da.dp (rup g7.s rl), .lst (SqL.of ht7) (dpAll_of (pmono pr7 fun _ _ => rup g7.s)),
        shaped_of (h3.1 c hcl).lay (by decide), shaped_of (a := dedup ((sortD ls).take i)) (fun y hy => (h3.1 y (hsub y hy)).lay) (by decide), _, rfl, ?_⟩)
      rw [any_eqv]
      by_cases hm : c ∈ dedup ((sortD ls).take i)
      · rw [decide_eq_true hm]
        refine iteF (ws_nil (ws_nil ⟨G7, Same.refl _, g7.s, acc, some lw, rfl, gA.trans g7.any, sA.trans g7.g, nx7, nt7, hx7, ht7, ?_⟩))
        rw [dedup_snoc hc]
        unfold d1
        rw [if_pos hm]
        exact pr7
      · rw [decide_eq_false hm]
        refine iteT (ws_exprW (WE.of (pe_bm PySem.F.plainAttrs_list PySem.F.slot_list_append PySem.F.type_list_append mt_append (pe_fld (pv 0) rfl) (pa_cons pe_we pa_nil)) ?_))
        refine ⟨.ref x, rfl, x, C, dx, _, .ref tl, rfl, hx7, T.cl, T.nT, bkF_t, .inl ⟨rfl, _, SqL.of ht7⟩, ?_⟩
        refine Ev.ap (a := c) (G1 := G7) g7.s (Ev.call1 (f := fun t => t) (a := c) cC hr (Ev.v 3 rfl rl) trivial) fun G8 H8 w8 g8 r8 => ?_
        have ht8 := g8.hh _ _ ht7
        have nt8 := g8.f tl nt7 (by rw [ht7]; exact fun z => nomatch z)
        refine ⟨tl, acc, w8, rfl, rfl, ht8, Nat.lt_trans hlen (by decide), ?_⟩
        have gp : GrM (fun q => q = tl) G8 H8 G8 (upd H8 tl (.lst (acc ++ [w8]))) := GrM.put g8.s nt8 rfl
        refine ws_nil (ws_nil ⟨G8, g8.g, gp.s, acc ++ [w8], some lw, rfl, ?_, sA.trans (g7.trans g8).g, g8.f x nx7 (by rw [hx7]; exact fun z => nomatch z), nt8, by rw [upd_ne xtl]; exact g8.hh _ _ hx7, upd_same, ?_⟩)
        · have gB := (gA.trans g7.any).trans g8.any
          refine ⟨gB.g, fun b' o' nb e => ?_, gp.s, gB.f, fun b' n => upd_some (gB.d b' n)⟩
          rw [upd_ne (ne_of_none e tl0)]
          exact gB.h b' o' nb e
        · rw [dedup_snoc hc]
          unfold d1
          rw [if_neg hm]
          exact r2_cat.PairedAppend (pmono pr7 fun _ _ => rup g8.g) (.cons r8 .nil)
    · rintro σ1 G6 H6 s46 s66 ⟨acc, lv, rfl, gA, sA, nx, nt, hx6, ht6, pr⟩
      rw [List.take_length] at pr
      have gP := gA.promote tl0 nt ht6
      have nx' : upd G6 tl (.lst acc) x = none := by rw [upd_ne xtl]; exact nx
      have sm : Same G6 (upd (upd G6 tl (.lst acc)) x (.ins C dx (bkF v4 (.ref tl)))) := (same_new nt).trans (same_new nx')
      refine ws_nil (kk _ H6 _ gP hx6 ⟨x, dx, v4, .ref tl, rfl, upd_same, rup (sA.trans sm) r4, tl, acc, rfl, by rw [upd_ne (Ne.symm xtl), upd_same], pmono pr fun _ _ => rup sm⟩)
theorem m_book_entries (F : C8.Fun K "entries" "Book.entries" sBookEntries f fd) (b : Binds K fd ["self"] []) (me : Meth K C "entries" f) (B : Bt mg) (T : BkT K mg C) :
    C8.Met P w K mg base 1 C "entries" (P1 (fun _ : Bk C => True) (fun d => d.names)) [] := by
  refine ⟨f, fd, _, [], T.cl, me, fk1 F scBookEntries rfl (fun cdv A outer s H E G v d hr r _ => ?_), b, .nil⟩
  exact Bl.rv (Ev.listOf B (Ev.fld (bkN T d) (Ev.v 0 rfl r)))
theorem m_book_lines (F : C8.Fun K "lines" "Book.lines" sBookLines f fd) (b : Binds K fd ["self"] []) (me : Meth K C "lines" f) (B : Bt mg) (T : BkT K mg C) (cC : C8.Cal P w K mg base 1 "copied" (P1 (fun _ : Ln => True) (fun t => t)) []) :
    C8.Met P w K mg base 2 C "lines" (P1 (fun d : Bk C => LnsOk d.told) (fun d => d.told)) [] := by
  refine ⟨f, fd, _, [], T.cl, me, fk1 F scBookLines rfl (fun cdv A outer s H E G v d hr r h => ?_), b, .nil⟩
  exact Bl.rv (Ev.eq (Ev.lcMap 1 (f := fun t => t) (EI.list (Ev.fld (bkTo T d) (Ev.v 0 rfl r))) (fun d hd G' v' s1 r' s H C cl fp => Ev.call1 (f := fun t => t) (a := d) cC hr (Ev.v 1 rfl r') trivial) h.sz scBookLines.nd (blkOk_by (N := nBookLines) (sc := C8.fnScope sBookLines) (by decide +kernel))) (List.map_id' _))
theorem k_book_eq (F : C8.Fun K "__eq__" "Book.__eq__" sBookEq f fd) (B : Bt mg) (T : BkT K mg C) :
    FnOk P w K mg base C8.CX0 1 f fd ["self", "other"] (P2 (fun a b : Bk C => BkOk a ∧ BkOk b) (fun a b => decide (a = b))) := by
  refine fk2 F scBookEq rfl fun cdv A outer s H E G u v a b hr r1 r2 h => ?_
  refine Bl.rv (Ev.eq (Ev.and (Ev.isC B T.isi T.mgC (Ev.v 1 rfl r2)) fun _ => Ev.one (Ev.eqD hr.units (Ev.tup2 (Ev.fld (bkN T a) (Ev.v 0 rfl r1)) (Ev.fld (bkTo T a) (Ev.v 0 rfl r1))) (Ev.tup2 (Ev.fld (bkN T b) (Ev.v 1 rfl r2)) (Ev.fld (bkTo T b) (Ev.v 1 rfl r2)))
    (by exact ⟨h.1.1.lay, h.1.2.lay⟩) (by exact ⟨h.2.1.lay, h.2.2.lay⟩))) ?_)
  obtain ⟨a1, a2⟩ := a
  obtain ⟨b1, b2⟩ := b
  simp [Bk.mk.injEq]
theorem c_check_book (D : C8.Def K mg "check_book" sCheckBook f fd) (b : Binds K fd ["value"] []) (B : Bt mg) (T : BkT K mg C) :
    C8.Cal P w K mg base 1 "check_book" (P1 (fun _ : Bk C => True) (fun _ => ())) [] := by
  refine fn1 D b scCheckBook rfl fun cdv A outer s H E G v d hr r _ => ?_
  exact Bl.ifF (ET.eq (ET.not (ET.val (Ev.isC B T.isi T.mgC (Ev.v 0 rfl r)))) rfl) (Bl.nil fun _ _ => rfl)
end
end T91

namespace T91
open PySem L2 D1 Rp
/-! ### texts: the plain laws -/
open SX
/-- few names, unlike -/
def Nok (ns : List Str) : Prop := areNames ns = true ∧ ns.length < 64
theorem isName_at {z : Str} (h : isName z = true) : 1 ≤ z.length ∧ z.length ≤ 8 ∧ ∀ c ∈ z.cps.toList, 97 ≤ c ∧ c ≤ 122 := by
  have h' := of_decide_eq_true h
  refine ⟨h'.1, h'.2.1, fun c hc => ?_⟩
  have e : ∀ c ∈ LT.cps.toList, 97 ≤ c ∧ c ≤ 122 := by decide +kernel
  exact e c (h'.2.2 c hc)
theorem strOk_low {z : Str} (h : ∀ c ∈ z.cps.toList, c < 128) : PyData.strOk z = true := by
  unfold PyData.strOk
  rw [Array.all_eq_true_iff_forall_mem]
  intro x hx
  have := h x (Array.mem_toList_iff.mpr hx)
  first
    | (simp only [decide_eq_true_eq]; omega)
    | (simp; omega)
theorem isName_zok {z : Str} (h : isName z = true) : Zok z := by
  obtain ⟨h1, h2, h3⟩ := isName_at h
  exact ⟨by omega, strOk_low fun c hc => by have := h3 c hc; omega⟩
theorem Nok.name {ns : List Str} (h : Nok ns) : ∀ z ∈ ns, isName z = true := (of_decide_eq_true h.1).1
theorem Nok.nodup {ns : List Str} (h : Nok ns) : ns.Nodup := (of_decide_eq_true h.1).2
theorem Nok.lok {ns : List Str} (h : Nok ns) : Lok ns := ⟨fun z hz => isName_zok (h.name z hz), h.2⟩
theorem joinL_le (s : List Nat) : ∀ l : List (List Nat), (TL.joinL s l).length ≤ (l.map (·.length)).sum + l.length * s.length
  | [] => by simp [TL.joinL]
  | [p] => by simp [TL.joinL]
  | p :: q :: r => by
    have := joinL_le s (q :: r)
    simp only [TL.joinL, List.length_append, List.map_cons, List.sum_cons, List.length_cons] at *
    have e : (r.length + 1 + 1) * s.length = (r.length + 1) * s.length + s.length := by rw [Nat.add_mul, Nat.one_mul]
    omega
theorem mem_joinL {s : List Nat} {c : Nat} : ∀ {l : List (List Nat)}, c ∈ TL.joinL s l → c ∈ s ∨ ∃ p ∈ l, c ∈ p
  | [], h => by cases h
  | [p], h => .inr ⟨p, List.mem_cons_self, h⟩
  | p :: q :: r, h => by
    rcases List.mem_append.mp h with h | h
    · exact .inr ⟨p, List.mem_cons_self, h⟩
    rcases List.mem_append.mp h with h | h
    · exact .inl h
    rcases mem_joinL h with h | ⟨p', h1, h2⟩
    · exact .inl h
    · exact .inr ⟨p', List.mem_cons_of_mem _ h1, h2⟩
theorem sum_le {α : Type} (f : α → Nat) (b : Nat) : ∀ l : List α, (∀ x ∈ l, f x ≤ b) → (l.map f).sum ≤ l.length * b
  | [], _ => by simp
  | x :: r, h => by
    have h1 := h x List.mem_cons_self
    have h2 := sum_le f b r fun y hy => h y (List.mem_cons_of_mem _ hy)
    simp only [List.map_cons, List.sum_cons, List.length_cons]
    rw [Nat.add_mul]
    omega
abbrev tl (z : Str) : List Nat := z.cps.toList
theorem join_at (s : List Nat) (l : List Str) : Txt.join (S s) l = S (TL.joinL s (l.map tl)) := by
  have e : l = (l.map tl).map S := by rw [List.map_map]; exact (List.map_id' l).symm.trans (List.map_congr_left fun z _ => (S_tl z).symm)
  conv => lhs; rw [e]
  exact join_S s _
theorem comma : (", " : Str) = S [44, 32] := by decide +kernel
theorem semi : ("; " : Str) = S [59, 32] := by decide +kernel
theorem blank : (" " : Str) = S [32] := by decide +kernel
theorem midIn : (" in " : Str) = S [32, 105, 110, 32] := by decide +kernel
theorem midBy : (" by " : Str) = S [32, 98, 121, 32] := by decide +kernel
theorem dash : ("-" : Str) = S [45] := by decide +kernel
/-- names, in a text -/
def lineOfNames (ns : List Str) : Str := if ns = [] then "-" else Txt.join ", " ns
def namesOf (t : Str) : Option (List Str) := if t = "-" then some [] else if (Txt.split t ", ").filter (fun z => !isName z) = [] then some (Txt.split t ", ") else none
/-- the signs in such a text -/
theorem lon_signs {ns : List Str} (h : ∀ z ∈ ns, isName z = true) : ∀ c ∈ tl (lineOfNames ns), c = 45 ∨ c = 44 ∨ c = 32 ∨ (97 ≤ c ∧ c ≤ 122) := by
  intro c hc
  unfold lineOfNames at hc
  split at hc
  · exact .inl (by revert hc; rw [dash]; simp [S, tl])
  · rw [comma, join_at] at hc
    rcases mem_joinL hc with h1 | ⟨p, h1, h2⟩
    · simp at h1; omega
    · obtain ⟨z, hz, rfl⟩ := List.mem_map.mp h1
      exact .inr (.inr (.inr ((isName_at (h z hz)).2.2 c h2)))
theorem lon_len {ns : List Str} (h : Nok ns) : (lineOfNames ns).length ≤ 641 := by
  unfold lineOfNames
  split
  · rw [dash]; decide
  · rw [comma, join_at, S_len]
    have h1 := joinL_le [44, 32] (ns.map tl)
    have h2 := sum_le (fun z : Str => z.length) 8 ns fun z hz => (isName_at (h.name z hz)).2.1
    have h3 : (ns.map tl).map (·.length) = ns.map (·.length) := by rw [List.map_map]; exact List.map_congr_left fun z _ => by simp [tl, Str.length]
    rw [h3, List.length_map] at h1
    have h4 := h.2
    have h5 : ([44, 32] : List Nat).length = 2 := rfl
    rw [h5] at h1
    have h6 : (ns.map (fun z : Str => z.length)).sum ≤ ns.length * 8 := h2
    omega
theorem namesOf_lon {ns : List Str} (h : ∀ z ∈ ns, isName z = true) : namesOf (lineOfNames ns) = some ns := by
  unfold namesOf
  by_cases e : ns = []
  · subst e
    exact if_pos (show lineOfNames [] = "-" from if_pos rfl)
  · have e0 : lineOfNames ns = S (TL.joinL [44, 32] (ns.map tl)) := by unfold lineOfNames; rw [if_neg e, comma, join_at]
    have hp : ∀ p ∈ ns.map tl, 44 ∉ p := fun p hp hc => by
      obtain ⟨z, hz, rfl⟩ := List.mem_map.mp hp
      have := (isName_at (h z hz)).2.2 44 hc
      omega
    have e1 : TL.spl [44, 32] 0 [] (TL.joinL [44, 32] (ns.map tl)) = ns.map tl := spl_join (by simpa using e) hp
    have e2 : Txt.split (lineOfNames ns) ", " = ns := by
      rw [e0, comma, split_S (by decide) (by decide), e1, List.map_map]
      exact (List.map_congr_left fun z _ => S_tl z).trans (List.map_id' ns)
    have e3 : ¬ lineOfNames ns = "-" := fun hh => by
      rw [e0, dash] at hh
      rw [S_inj hh] at e1
      have e4 : TL.spl [44, 32] 0 [] [45] = [[45]] := by decide
      rw [e4] at e1
      have : [45] ∈ ns.map tl := by rw [← e1]; exact List.mem_cons_self
      obtain ⟨z, hz, e5⟩ := List.mem_map.mp this
      have := (isName_at (h z hz)).2.2 45 (by rw [show z.cps.toList = [45] from e5]; exact List.mem_cons_self)
      omega
    have e6 : (Txt.split (lineOfNames ns) ", ").filter (fun z => !isName z) = [] := by
      rw [e2]
      exact filter_nil_iff.mpr fun z hz => by rw [h z hz]; rfl
    rw [if_neg e3, if_pos e6, e2]
/-- a line that may be told -/
def someLine (t : Ln) : Bool := decide (t.a = "call" ∨ t.a = "off") && (isAscending t.b && (!decide (t.b = []) && (isName t.c && decide (decide (t.c ∈ t.b) = decide (t.a = "call")))))
def LnGood (t : Ln) : Prop := someLine t = true ∧ t.b.length < 64
theorem LnGood.parts {t : Ln} (h : LnGood t) : (t.a = "call" ∨ t.a = "off") ∧ Nok t.b ∧ t.b = sortS t.b ∧ t.b ≠ [] ∧ isName t.c = true ∧ (t.c ∈ t.b ↔ t.a = "call") := by
  obtain ⟨h1, h2⟩ := h
  unfold someLine isAscending at h1
  simp only [Bool.and_eq_true, decide_eq_true_eq, Bool.not_eq_true', decide_eq_false_iff_not, decide_eq_decide] at h1
  exact ⟨h1.1, ⟨h1.2.1.1, h2⟩, h1.2.1.2, h1.2.2.1, h1.2.2.2.1, h1.2.2.2.2⟩
theorem word_zok {z : Str} (h : z = "call" ∨ z = "off") : Zok z ∧ z.length ≤ 4 ∧ ∀ c ∈ tl z, 97 ≤ c ∧ c ≤ 122 := by
  rcases h with rfl | rfl <;> exact ⟨⟨by decide +kernel, by decide +kernel⟩, by decide +kernel, by decide +kernel⟩
theorem LnGood.ok {t : Ln} (h : LnGood t) : LnOk t := ⟨(word_zok h.parts.1).1, h.parts.2.1.lok, isName_zok h.parts.2.2.2.2.1⟩
def midOf (w : Str) : Str := if decide (w = "call") = true then " in " else " by "
def textOfLine (t : Ln) : Str := t.a ++ " " ++ t.c ++ midOf t.a ++ lineOfNames t.b
theorem tol_at (t : Ln) : ∃ m : List Nat, midOf t.a = S (32 :: m) ∧ (m = [105, 110, 32] ∨ m = [98, 121, 32]) ∧ textOfLine t = S (tl t.a ++ ([32] ++ (tl t.c ++ (32 :: m ++ tl (lineOfNames t.b))))) := by
  unfold textOfLine midOf
  have k : ∀ m : List Nat, t.a ++ S [32] ++ t.c ++ S m ++ lineOfNames t.b = S (tl t.a ++ ([32] ++ (tl t.c ++ (m ++ tl (lineOfNames t.b))))) := fun m => by
    have h1 : t.a = S (tl t.a) := (S_tl _).symm
    have h2 : t.c = S (tl t.c) := (S_tl _).symm
    have h3 : lineOfNames t.b = S (tl (lineOfNames t.b)) := (S_tl _).symm
    rw [h1, h2, h3, S_cat, S_cat, S_cat, S_cat]
    simp only [List.append_assoc]
  split
  · exact ⟨[105, 110, 32], midIn, .inl rfl, by rw [blank, midIn]; exact k _⟩
  · exact ⟨[98, 121, 32], midBy, .inr rfl, by rw [blank, midBy]; exact k _⟩
theorem tol_par {t : Ln} (h : LnGood t) : ∃ r : Str, Txt.partition (textOfLine t) " " = (t.a, (" " : Str), r) ∧ Txt.partition r (midOf t.a) = (t.c, midOf t.a, lineOfNames t.b) := by
  obtain ⟨m, e1, e2, e3⟩ := tol_at t
  obtain ⟨h1, h2, h3, h4, h5, h6⟩ := h.parts
  refine ⟨S (tl t.c ++ (32 :: m ++ tl (lineOfNames t.b))), ?_, ?_⟩
  · rw [e3, blank, partition_some (p := tl t.a) (q := tl t.c ++ (32 :: m ++ tl (lineOfNames t.b))) (by decide) (par_head _ fun hc => by have := (word_zok h1).2.2 32 hc; omega), S_tl]
  · rw [e1, partition_some (p := tl t.c) (q := tl (lineOfNames t.b)) (List.cons_ne_nil _ _) (par_head _ fun hc => by have := (isName_at h5).2.2 32 hc; omega), S_tl, S_tl]
theorem mem_midL {m : List Nat} {c : Nat} (e2 : m = [105, 110, 32] ∨ m = [98, 121, 32]) (hc : c ∈ 32 :: m) : c = 32 ∨ (97 ≤ c ∧ c ≤ 122) := by
  rcases e2 with rfl | rfl <;> simp at hc <;> omega
theorem tol_signs {t : Ln} (h : LnGood t) : ∀ c ∈ tl (textOfLine t), c = 45 ∨ c = 44 ∨ c = 32 ∨ (97 ≤ c ∧ c ≤ 122) := by
  obtain ⟨m, e1, e2, e3⟩ := tol_at t
  obtain ⟨h1, h2, h3, h4, h5, h6⟩ := h.parts
  intro c hc
  rw [e3] at hc
  have hc : c ∈ tl t.a ++ ([32] ++ (tl t.c ++ (32 :: m ++ tl (lineOfNames t.b)))) := hc
  rw [List.mem_append, List.mem_append, List.mem_append, List.mem_append] at hc
  rcases hc with hc | hc | hc | hc | hc
  · exact .inr (.inr (.inr ((word_zok h1).2.2 c hc)))
  · simp at hc; omega
  · exact .inr (.inr (.inr ((isName_at h5).2.2 c hc)))
  · have := mem_midL e2 hc; omega
  · exact lon_signs h2.name c hc
theorem tol_len {t : Ln} (h : LnGood t) : (textOfLine t).length ≤ 659 := by
  obtain ⟨m, e1, e2, e3⟩ := tol_at t
  obtain ⟨h1, h2, h3, h4, h5, h6⟩ := h.parts
  have a1 := (word_zok h1).2.1
  have a2 := (isName_at h5).2.1
  have a3 := lon_len h2
  have a4 : m.length = 3 := by rcases e2 with rfl | rfl <;> rfl
  rw [e3, S_len]
  simp only [List.length_append, List.length_cons, List.length_nil]
  have b1 : (tl t.a).length = t.a.length := by simp [tl, Str.length]
  have b2 : (tl t.c).length = t.c.length := by simp [tl, Str.length]
  have b3 : (tl (lineOfNames t.b)).length = (lineOfNames t.b).length := by simp [tl, Str.length]
  omega
theorem semi_split {l : List Str} (hn : l ≠ []) (h : ∀ z ∈ l, ∀ c ∈ tl z, c = 45 ∨ c = 44 ∨ c = 32 ∨ (97 ≤ c ∧ c ≤ 122)) : Txt.split (Txt.join "; " l) "; " = l := by
  rw [semi, join_at, split_S (by decide) (by decide), spl_join (by simpa using hn) fun p hp hc => by
    obtain ⟨z, hz, rfl⟩ := List.mem_map.mp hp
    have := h z hz 59 hc
    omega]
  rw [List.map_map]
  exact (List.map_congr_left fun z _ => S_tl z).trans (List.map_id' l)
theorem semi_len {l : List Str} {b : Nat} (h : ∀ z ∈ l, z.length ≤ b) : (Txt.join "; " l).length ≤ l.length * (b + 2) := by
  rw [semi, join_at, S_len]
  have h1 := joinL_le [59, 32] (l.map tl)
  have h3 : (l.map tl).map (·.length) = l.map (·.length) := by rw [List.map_map]; exact List.map_congr_left fun z _ => by simp [tl, Str.length]
  rw [h3, List.length_map] at h1
  have h2 : (l.map (·.length)).sum ≤ l.length * b := sum_le (fun z : Str => z.length) b l h
  have h5 : ([59, 32] : List Nat).length = 2 := rfl
  rw [h5] at h1
  rw [Nat.mul_add]
  omega
/-! panels, books -/
def PanGood {C : Addr} (p : Pan C) : Prop := Nok p.names ∧ p.names = sortS p.names ∧ p.names ≠ [] ∧ p.orders ≠ [] ∧ p.orders.length < 64 ∧ ∀ r ∈ p.orders, r.Perm p.names
theorem PanGood.row {C : Addr} {p : Pan C} (h : PanGood p) {r : List Str} (hr : r ∈ p.orders) : Nok r ∧ r ≠ [] ∧ sortS r = p.names := by
  have hp := h.2.2.2.2.2 r hr
  refine ⟨⟨decide_eq_true ⟨fun z hz => h.1.name z (hp.mem_iff.mp hz), hp.nodup_iff.mpr h.1.nodup⟩, by rw [hp.length_eq]; exact h.1.2⟩, fun e => ?_, by rw [sortS_congr hp, ← h.2.1]⟩
  subst e
  exact h.2.2.1 (List.nil_perm.mp hp)
theorem PanGood.rok {C : Addr} {p : Pan C} (h : PanGood p) : Rok p.orders := ⟨fun r hr => (h.row hr).1.lok, Nat.lt_trans h.2.2.2.2.1 (by decide)⟩
theorem PanGood.ok {C : Addr} {p : Pan C} (h : PanGood p) : PanOk p := ⟨h.1.lok, h.rok⟩
theorem PanGood.pre {C : Addr} {p : Pan C} (h : PanGood p) : panPre p.names p.orders := by
  refine ⟨h.1.lok, ?_, h.rok, decide_eq_true fun r hr => ?_, h.2.2.2.1⟩
  · unfold areEntries
    rw [h.1.1, decide_eq_false h.2.2.1]
    rfl
  · unfold isRow
    rw [(h.row hr).1.1, (h.row hr).2.2, ← h.2.1]
    simp
def panelText {C : Addr} (p : Pan C) : Str := Txt.join "; " (p.orders.map lineOfNames)
theorem pan_split {C : Addr} {p : Pan C} (h : PanGood p) : Txt.split (panelText p) "; " = p.orders.map lineOfNames :=
  semi_split (by simpa using h.2.2.2.1) fun z hz => by
    obtain ⟨r, hr, rfl⟩ := List.mem_map.mp hz
    exact lon_signs (h.row hr).1.name
theorem pan_len {C : Addr} {p : Pan C} (h : PanGood p) : (panelText p).length ≤ 50000 := by
  have := semi_len (l := p.orders.map lineOfNames) (b := 641) fun z hz => by
    obtain ⟨r, hr, rfl⟩ := List.mem_map.mp hz
    exact lon_len (h.row hr).1
  rw [List.length_map] at this
  have h2 := h.2.2.2.2.1
  unfold panelText
  omega
theorem pan_rows {C : Addr} {p : Pan C} (h : PanGood p) : (p.orders.map lineOfNames).map namesOf = p.orders.map some := by
  rw [List.map_map]
  exact List.map_congr_left fun r hr => namesOf_lon (h.row hr).1.name
def panelOfText (C : Addr) (t : Str) : Option (Pan C) :=
  let rows := (Txt.split t "; ").map fun z => (namesOf z).getD []
  some ⟨sortS (rows.headD []), rows⟩
theorem getD_rows {α β : Type} {l : List α} {f : α → Str} {g : Str → Option β} {d : β} (k : α → β) (h : ∀ x ∈ l, g (f x) = some (k x)) : (l.map f).map (fun z => (g z).getD d) = l.map k := by
  rw [List.map_map]
  exact List.map_congr_left fun x hx => by show (g (f x)).getD d = k x; rw [h x hx]; rfl
theorem pan_back {C : Addr} {p : Pan C} (h : PanGood p) : panelOfText C (panelText p) = some p := by
  unfold panelOfText
  rw [pan_split h, getD_rows (fun r => r) fun r hr => namesOf_lon (h.row hr).1.name, List.map_id']
  obtain ⟨ns, os⟩ := p
  cases os with
  | nil => exact absurd rfl h.2.2.2.1
  | cons o r =>
    have := (h.row (r := o) List.mem_cons_self).2.2
    show some (Pan.mk (sortS o) (o :: r)) = _
    rw [this]
def lineOf (t : Str) : Option Ln :=
  let w := (Txt.partition t " ").1
  let r := Txt.partition (Txt.partition t " ").2.2 (midOf w)
  some ⟨w, (namesOf r.2.2).getD [], r.1⟩
theorem line_back {t : Ln} (h : LnGood t) : lineOf (textOfLine t) = some t := by
  obtain ⟨r, e1, e2⟩ := tol_par h
  unfold lineOf
  simp only [e1, e2, namesOf_lon h.parts.2.1.name]
  rfl
def BkGood {C : Addr} (b : Bk C) : Prop := Nok b.names ∧ b.names = sortS b.names ∧ b.names ≠ [] ∧ b.told.length < 1000 ∧ b.told = sortD b.told ∧ b.told.Nodup ∧ ∀ t ∈ b.told, LnGood t ∧ isLine t b.names = true
theorem BkGood.lns {C : Addr} {b : Bk C} (h : BkGood b) : LnsOk b.told := ⟨fun t ht => (h.2.2.2.2.2.2 t ht).1.ok, Nat.lt_trans h.2.2.2.1 (by decide)⟩
theorem BkGood.ok {C : Addr} {b : Bk C} (h : BkGood b) : BkOk b := ⟨h.1.lok, h.lns⟩
theorem BkGood.pre {C : Addr} {b : Bk C} (h : BkGood b) : bkPre b.names b.told := by
  refine ⟨h.1.lok, ?_, h.lns, decide_eq_true fun t ht => (h.2.2.2.2.2.2 t ht).2⟩
  unfold areEntries
  rw [h.1.1, decide_eq_false h.2.2.1]
  rfl
theorem BkGood.made {C : Addr} {b : Bk C} (h : BkGood b) : (mkBk b.names b.told : Bk C) = b := by
  unfold mkBk
  rw [← h.2.1, ← h.2.2.2.2.1, dedup_id h.2.2.2.2.2.1]
def bookText {C : Addr} (b : Bk C) : Str := Txt.join "; " ([lineOfNames b.names] ++ b.told.map textOfLine)
theorem bk_split {C : Addr} {b : Bk C} (h : BkGood b) : Txt.split (bookText b) "; " = lineOfNames b.names :: b.told.map textOfLine :=
  semi_split (List.cons_ne_nil _ _) fun z hz => by
    rcases List.mem_cons.mp hz with rfl | hz
    · exact lon_signs h.1.name
    · obtain ⟨t, ht, rfl⟩ := List.mem_map.mp hz
      exact tol_signs (h.2.2.2.2.2.2 t ht).1
theorem bk_len {C : Addr} {b : Bk C} (h : BkGood b) : (bookText b).length ≤ 700000 := by
  have := semi_len (l := lineOfNames b.names :: b.told.map textOfLine) (b := 659) fun z hz => by
    rcases List.mem_cons.mp hz with rfl | hz
    · have := lon_len h.1; omega
    · obtain ⟨t, ht, rfl⟩ := List.mem_map.mp hz
      exact tol_len (h.2.2.2.2.2.2 t ht).1
  rw [List.length_cons, List.length_map] at this
  have h2 := h.2.2.2.1
  show (Txt.join "; " (lineOfNames b.names :: b.told.map textOfLine)).length ≤ 700000
  omega
def bookOfText (C : Addr) (t : Str) : Option (Bk C) :=
  some ⟨(namesOf ((Txt.split t "; ").headD "")).getD [], ((Txt.split t "; ").drop 1).map fun z => (lineOf z).getD ⟨"", [], ""⟩⟩
theorem bk_back {C : Addr} {b : Bk C} (h : BkGood b) : bookOfText C (bookText b) = some b := by
  unfold bookOfText
  rw [bk_split h]
  show some (Bk.mk ((namesOf (lineOfNames b.names)).getD []) ((b.told.map textOfLine).map fun z => (lineOf z).getD ⟨"", [], ""⟩)) = _
  rw [namesOf_lon h.1.name, getD_rows (fun r => r) fun t ht => line_back (h.2.2.2.2.2.2 t ht).1, List.map_id']
  rfl
end T91

namespace T91
open PySem L2 D1 Rp
/-! ### texts: the walks -/
open SX
theorem len_cat (x y : Str) : (x ++ y).length = x.length + y.length := by
  have h1 : x = S (tl x) := (S_tl _).symm
  have h2 : y = S (tl y) := (S_tl _).symm
  rw [h1, h2, S_cat, S_len, S_len, S_len, List.length_append]
theorem ev_unopt {α : Type} [Rp α] {X : Cx} {e : Expr} {σ : St} {G : Hp} {a : α} (h : Ev X e σ G (some a)) : Ev X e σ G a := h
theorem rp_somes {α : Type} [Rp α] {G : Hp} : ∀ {xs : List V} {l : List α}, Paired (rp G) xs (l.map some) → Paired (rp G) xs l
  | [], [], _ => .nil
  | [], _ :: _, h => by cases h
  | _ :: _, [], h => by cases h
  | _ :: _, _ :: _, h => by
    cases h with
    | cons a b => exact .cons a (rp_somes b)
theorem rp_some {α : Type} [Rp α] {G : Hp} {v : V} {l : List α} (h : rp G v (l.map some)) : rp G v l := by
  obtain ⟨p, xs, e, h1, h2⟩ := h
  exact ⟨p, xs, e, h1, rp_somes h2⟩
theorem ev_iteF {α : Type} [Rp α] {X : Cx} {a b c : Expr} {σ : St} {G : Hp} {pos : Pos} {z : α} (h : ET X c σ G false) (h2 : Ev X b σ G z) : Ev X (.IfExp c a b pos) σ G z :=
  (Ev.ite (z := z) h (fun hh => nomatch hh) fun _ => h2).eq (if_neg Bool.false_ne_true)
theorem ev_iteT {α : Type} [Rp α] {X : Cx} {a b c : Expr} {σ : St} {G : Hp} {pos : Pos} {z : α} (h : ET X c σ G true) (h2 : Ev X a σ G z) : Ev X (.IfExp c a b pos) σ G z :=
  (Ev.ite (z' := z) h (fun _ => h2) fun hh => nomatch hh).eq (if_pos rfl)
/-- values that are never None -/
class Nn (α : Type) [Rp α] where
  nn {H : Hp} {v : V} {a : α} : rp H v a → ¬ v = .non
instance {α : Type} [Rp α] : Nn (List α) := ⟨fun ⟨p, _, e, _⟩ h => by subst e; cases h⟩
instance {α β γ : Type} [Rp α] [Rp β] [Rp γ] : Nn (T3 α β γ) := ⟨fun ⟨p, _, _, _, e, _⟩ h => by subst e; cases h⟩
instance {C : Addr} : Nn (Pan C) := ⟨fun ⟨p, _, _, _, _, e, _⟩ h => by subst e; cases h⟩
instance {C : Addr} : Nn (Bk C) := ⟨fun ⟨p, _, _, _, e, _⟩ h => by subst e; cases h⟩
/-- is None, of a thing -/
theorem et_isN {α : Type} [Rp α] [Nn α] {X : Cx} {e : Expr} {σ : St} {G : Hp} {pos q : Pos} {j} {a : α} (h : Ev X e σ G a) : ET X (.Compare e [.Is] [.Constant .none j q] pos) σ G false := fun G1 H1 Q s1 s2 k =>
  WT.of (pt_cmpR op_isN pe_we pe_non rfl) (h G1 H1 _ s1 s2 fun G2 H2 v g r => ⟨rfl, false, by rw [decide_eq_false (Nn.nn r)], k _ _ g⟩)
/-- the places of a def in hand, and one more value -/
def PB {α β : Type} [Rp α] [Rp β] (f0 : Addr) (pre : α → Prop) (f : α → β) : Sp := fun vs H Q _ => ∃ G v a, vs = [.ref f0, v] ∧ Same G H ∧ rp G v a ∧ pre a ∧ ∀ G' H' w, Gr G H G' H' → rp G' w (f a) → Q w H'
theorem ev_callF {α β : Type} [Rp α] [Rp β] {X : Cx} {e : Expr} {σ : St} {G : Hp} {pos p q : Pos} {x y : Str} {k j : Nat} {f0 : Addr} {pre : α → Prop} {f : α → β} {a : α} (c : C8.Cal X.prog X.w X.K X.mg X.base k x (PB f0 pre f) []) (hr : Room j X.A) (hm : X.mg y = some (.ref f0)) (ha : Ev X e σ G a) (hp : pre a) (hk : k ≤ j := by decide) (hg : Gl X x := by rfl) (hgy : Gl X y := by rfl)
    (hdb : (x == ("__debug__" : Str)) = false := by decide) (hdy : (y == ("__debug__" : Str)) = false := by decide) (hs : starEach [.Name y q, e] X.env = (false, eval (.Name y q) X.env) :: starEach [e] X.env := by rfl) (hs2 : starEach [e] X.env = (false, eval e X.env) :: starEach [] X.env := by rfl) (hpl : (backTo pos (starEach [e] X.env)).any (·.1) = false := by rfl) : Ev X (.Call (.Name x p) [.Name y q, e] [] pos) σ G (f a) := fun G1 H1 Q s1 s2 kk =>
  WE.of (C8.pe_c c hr hk hg (pa_cons (pe_glob (v := .ref f0) hgy hm rfl hdy) (pa_cons pe_we pa_nil hs2) hs) hdb hs hpl) (ha G1 H1 _ s1 s2 fun G2 H2 v g r => ⟨G2, v, a, rfl, g.s, r, hp, fun G3 H3 w g2 r2 => kk G3 H3 w (g.trans g2) r2⟩)
section
variable {P : Program} {w : World} {K : PySem.W.Frag} {mg : Str → Option Value} {base : Heap} {f C : Addr} {fd : FuncData}
theorem c_line_of_names (D : C8.Def K mg "line_of_names" sLineOfNames f fd) (b : Binds K fd ["names"] []) :
    C8.Cal P w K mg base 1 "line_of_names" (P1 Nok lineOfNames) [] := by
  refine fn1 D b scLineOfNames rfl fun cdv A outer s H E G v l hr r h => ?_
  refine Bl.rv (Ev.eq (Ev.ite (ET.eqD hr.units (Ev.v 0 rfl r) Ev.nil h.lok.lay lay_nil) (fun _ => Ev.str) fun _ => Ev.join Ev.str (Ev.v 0 rfl r) ?_) ?_)
  · have h2 := sum_le (fun z : Str => z.length) 8 l fun z hz => (isName_at (h.name z hz)).2.1
    have h4 := h.2
    have h5 : (", " : Str).length = 2 := by decide +kernel
    have h6 : (l.map (fun z : Str => z.length)).sum ≤ l.length * 8 := h2
    rw [h5]
    omega
  · unfold lineOfNames
    by_cases e : l = []
    · rw [if_pos e, decide_eq_true e]; rfl
    · rw [if_neg e, decide_eq_false e]; rfl
theorem c_is_some_line (D : C8.Def K mg "is_some_line" sIsSomeLine f fd) (b : Binds K fd ["value"] []) (B : Bt mg) (cA : C8.Cal P w K mg base 3 "is_ascending" (P1 Lok isAscending) []) (cN : C8.Cal P w K mg base 1 "is_name" (P1 Zok isName) []) :
    C8.Cal P w K mg base 4 "is_some_line" (P1 LnOk someLine) [] := by
  refine fn1 D b scIsSomeLine rfl fun cdv A outer s H E G v t hr r h => ?_
  refine Bl.ifF (ET.eq (EW.t (EW.or (ET.not (ET.val (Ev.isiT3 B (Ev.v 0 rfl r)))) fun _ => EW.or (ET.neD hr.units (Ev.len3 B (Ev.v 0 rfl r)) Ev.int trivial trivial) fun _ => EW.or1 (ET.not (ET.val (Ev.isiStr B (Ev.ix30 (Ev.v 0 rfl r))))))) (by decide)) ?_
  refine Bl.asg3 1 2 3 (Ev.v 0 rfl r) (fun G' x y z s1 q1 q2 q3 => ?_) scIsSomeLine.nd
  refine Bl.ite (EW.t (EW.or (ET.niT2 (Ev.v 1 rfl q1) (Ev.tup2 Ev.str Ev.str)) fun _ => EW.or (ET.not (ET.val (Ev.call1 cA hr (Ev.v 2 rfl q2) h.2.1))) fun _ => EW.or (ET.eqD hr.units (Ev.v 2 rfl q2) Ev.nil h.2.1.lay lay_nil) fun _ => EW.or1 (ET.not (ET.val (Ev.call1 cN hr (Ev.v 3 rfl q3) h.2.2)))))
    (fun hh => Bl.rv (Ev.bl.eq ?_)) fun hh => Bl.rv (Ev.eq (Ev.eqD hr.units (Ev.inD hr.units65 (Ev.v 3 rfl q3) (Ev.v 2 rfl q2) h.2.2.2 h.2.1.lay) (Ev.eqD hr.units (Ev.v 1 rfl q1) Ev.str h.1.2 (show PyData.strOk ("call" : Str) = true by decide +kernel)) trivial trivial) ?_)
  · unfold someLine
    revert hh
    cases decide (t.a = "call" ∨ t.a = "off") <;> cases isAscending t.b <;> cases isName t.c <;> cases decide (t.b = []) <;> simp
  · unfold someLine
    revert hh
    cases decide (t.a = "call" ∨ t.a = "off") <;> cases isAscending t.b <;> cases isName t.c <;> cases decide (t.b = []) <;> simp
theorem c_text_of_line (D : C8.Def K mg "text_of_line" sTextOfLine f fd) (b : Binds K fd ["line"] []) (cL : C8.Cal P w K mg base 1 "line_of_names" (P1 Nok lineOfNames) []) :
    C8.Cal P w K mg base 2 "text_of_line" (P1 LnGood textOfLine) [] := by
  refine fn1 D b scTextOfLine rfl fun cdv A outer s H E G v t hr r h => ?_
  refine Bl.asg3 1 2 3 (Ev.v 0 rfl r) (fun G' x y z s1 q1 q2 q3 => ?_) scTextOfLine.nd
  have a1 := (word_zok h.parts.1).2.1
  have a2 := (isName_at h.parts.2.2.2.2.1).2.1
  have a3 := lon_len h.parts.2.1
  have a4 : (midOf t.a).length = 4 := by unfold midOf; split <;> decide +kernel
  have a5 : (" " : Str).length = 1 := by decide +kernel
  have a6 : sizeLine = 16777216 := rfl
  have e1 := len_cat t.a " "
  have e2 := len_cat (t.a ++ " ") t.c
  have e3 := len_cat (t.a ++ " " ++ t.c) (midOf t.a)
  exact Bl.rv (Ev.addS (Ev.addS (Ev.addS (Ev.addS (Ev.v 1 rfl q1) Ev.str (by omega)) (Ev.v 3 rfl q3) (by omega)) (Ev.ite (ET.eqD hr.units (Ev.v 1 rfl q1) Ev.str h.ok.1.2 (show PyData.strOk ("call" : Str) = true by decide +kernel)) (fun _ => Ev.str) fun _ => Ev.str) (by exact (show (t.a ++ " " ++ t.c).length + (midOf t.a).length ≤ sizeLine by omega))) (Ev.call1 cL hr (Ev.v 2 rfl q2) h.parts.2.1) (by exact (show (t.a ++ " " ++ t.c ++ midOf t.a).length + (lineOfNames t.b).length ≤ sizeLine by omega)))
theorem c_panel_text (D : C8.Def K mg "panel_text" sPanelText f fd) (b : Binds K fd ["panel"] []) (cK : C8.Cal P w K mg base 1 "check_panel" (P1 (fun _ : Pan C => True) (fun _ => ())) []) (cR : C8.Met P w K mg base 1 C "rows" (P1 (fun p : Pan C => Rok p.orders) (fun p => p.orders)) [])
    (cL : C8.Cal P w K mg base 1 "line_of_names" (P1 Nok lineOfNames) []) : C8.Cal P w K mg base 2 "panel_text" (P1 (fun p : Pan C => PanGood p) panelText) [] := by
  refine fn1 D b scPanelText rfl fun cdv A outer s H E G v d hr r h => ?_
  refine Bl.expr (Ev.call1 cK hr (Ev.v 0 rfl r) trivial) ?_
  refine Bl.rv (Ev.join Ev.str (Ev.lcMap 1 (f := lineOfNames) (EI.list (Ev.meth0 cR hr (panM d (by decide) (by decide) (by decide)) (Ev.v 0 rfl r) h.rok)) (fun x hx G' v' s1 r' s H C cl fp => Ev.call1 cL hr (Ev.v 1 rfl r') (h.row hx).1) h.rok.sz scPanelText.nd (blkOk_by (N := nPanelText) (sc := C8.fnScope sPanelText) (by decide +kernel))) ?_)
  have h2 := sum_le (fun z : Str => z.length) 641 (d.orders.map lineOfNames) fun z hz => by
    obtain ⟨r, hr, rfl⟩ := List.mem_map.mp hz
    exact lon_len (h.row hr).1
  have h3 : ((d.orders.map lineOfNames).map (fun z : Str => z.length)).sum ≤ (d.orders.map lineOfNames).length * 641 := h2
  have h4 := h.2.2.2.2.1
  have h5 : ("; " : Str).length = 2 := by decide +kernel
  rw [List.length_map] at h3
  rw [h5, List.length_map]
  omega
theorem c_line_text (D : C8.Def K mg "line_text" sLineText f fd) (b : Binds K fd ["line"] []) (cS : C8.Cal P w K mg base 4 "is_some_line" (P1 LnOk someLine) []) (cT : C8.Cal P w K mg base 2 "text_of_line" (P1 LnGood textOfLine) []) :
    C8.Cal P w K mg base 5 "line_text" (P1 LnGood textOfLine) [] := by
  refine fn1 D b scLineText rfl fun cdv A outer s H E G v d hr r h => ?_
  exact Bl.ifF (ET.eq (ET.not (ET.val (Ev.call1 cS hr (Ev.v 0 rfl r) h.ok))) (by rw [h.1]; rfl)) (Bl.rv (Ev.call1 cT hr (Ev.v 0 rfl r) h))
theorem c_book_text (D : C8.Def K mg "book_text" sBookText f fd) (b : Binds K fd ["book"] []) (cK : C8.Cal P w K mg base 1 "check_book" (P1 (fun _ : Bk C => True) (fun _ => ())) []) (cE : C8.Met P w K mg base 1 C "entries" (P1 (fun _ : Bk C => True) (fun d => d.names)) []) (cN : C8.Met P w K mg base 2 C "lines" (P1 (fun d : Bk C => LnsOk d.told) (fun d => d.told)) [])
    (cL : C8.Cal P w K mg base 1 "line_of_names" (P1 Nok lineOfNames) []) (cT : C8.Cal P w K mg base 2 "text_of_line" (P1 LnGood textOfLine) []) : C8.Cal P w K mg base 3 "book_text" (P1 (fun d : Bk C => BkGood d) bookText) [] := by
  refine fn1 D b scBookText rfl fun cdv A outer s H E G v d hr r h => ?_
  refine Bl.expr (Ev.call1 cK hr (Ev.v 0 rfl r) trivial) ?_
  have h7 := h.2.2.2.1
  have hsz : ([lineOfNames d.names] : List Str).length + (d.told.map textOfLine).length ≤ sizeLine := by
    rw [List.length_map]
    have a6 : sizeLine = 16777216 := rfl
    have : ([lineOfNames d.names] : List Str).length = 1 := rfl
    omega
  refine Bl.rv (Ev.join Ev.str (Ev.cat (Ev.lst (EL.cons (Ev.call1 cL hr (Ev.meth0 cE hr (bkM d (by decide) (by decide)) (Ev.v 0 rfl r) trivial) h.1) EL.nil) (show 1 ≤ 1000 by decide))
    (Ev.lcMap 1 (f := textOfLine) (EI.list (Ev.meth0 cN hr (bkM d (by decide) (by decide)) (Ev.v 0 rfl r) h.lns)) (fun x hx G' v' s1 r' s H C cl fp => Ev.call1 cT hr (Ev.v 1 rfl r') (h.2.2.2.2.2.2 x hx).1) h.lns.sz scBookText.nd (blkOk_by (N := nBookText) (sc := C8.fnScope sBookText) (by decide +kernel))) hsz) ?_)
  have h2 := sum_le (fun z : Str => z.length) 659 ([lineOfNames d.names] ++ d.told.map textOfLine) fun z hz => by
    rcases List.mem_cons.mp hz with rfl | hz
    · have := lon_len h.1; omega
    · obtain ⟨t, ht, rfl⟩ := List.mem_map.mp hz
      exact tol_len (h.2.2.2.2.2.2 t ht).1
  have h3 : (([lineOfNames d.names] ++ d.told.map textOfLine).map (fun z : Str => z.length)).sum ≤ ([lineOfNames d.names] ++ d.told.map textOfLine).length * 659 := h2
  have h5 : ("; " : Str).length = 2 := by decide +kernel
  have h8 : ([lineOfNames d.names] ++ d.told.map textOfLine).length = 1 + d.told.length := by rw [List.length_append, List.length_map]; rfl
  rw [h8] at h3
  rw [h5, h8]
  omega
end
end T91

namespace T91
open PySem L2 D1 Rp
/-! ### texts: the readers -/
open SX
theorem lon_ne {ns : List Str} (h : ∀ z ∈ ns, isName z = true) (hn : ns ≠ []) : ¬ lineOfNames ns = "-" := fun e => by
  have h1 := namesOf_lon h
  rw [e] at h1
  have h2 : namesOf "-" = some [] := if_pos rfl
  exact hn (Option.some.inj (h1.symm.trans h2))
theorem lon_split {ns : List Str} (h : ∀ z ∈ ns, isName z = true) (hn : ns ≠ []) : Txt.split (lineOfNames ns) ", " = ns := by
  have h1 := namesOf_lon h
  unfold namesOf at h1
  rw [if_neg (lon_ne h hn)] at h1
  split at h1
  · exact Option.some.inj h1
  · cases h1
theorem lay_some {α : Type} [Rp α] [Da α] {a : α} (h : Da.lay a) : Da.lay (some a) := fun b e => by cases e; exact h
theorem dno {p : Prop} {i : Decidable p} (h : ¬ p) : @decide p i = false := @decide_eq_false p i h
theorem lay_none {α : Type} [Rp α] [Da α] : Da.lay (none : Option α) := fun b e => by cases e
theorem lay_somes {α : Type} [Rp α] [Da α] {l : List α} (h : Da.lay l) : Da.lay (l.map some) := fun b e => by
  obtain ⟨a, ha, rfl⟩ := List.mem_map.mp e
  exact lay_some (h a ha)
theorem none_somes {α : Type} {l : List α} : ¬ none ∈ l.map some := fun h => by
  obtain ⟨a, _, e⟩ := List.mem_map.mp h
  cases e
theorem at0 {α : Type} {x : α} {l : List α} : atI (x :: l) 0 = some x := by
  have e : ixN (x :: l).length 0 = some 0 := by
    unfold ixN
    rw [if_pos (Int.le_refl 0), if_pos (by rw [List.length_cons]; omega)]
    rfl
  unfold atI
  rw [e]
  rfl
/-- y = [elt for x in iter], in a def's body -/
theorem bl_asgMap {γ δ : Type} [Rp γ] [Rp δ] {X : Cx} {σ : St} {G : Hp} {N : St → Hp → Prop} {R : V → Hp → Prop} {rest : List Stmt} {pos px : Pos} (i j : Nat) {x y : Str} {py spos : Pos} {elt iter : Expr} {scope : Scope} {l : List γ} {f : γ → δ} (hi : EI X (.Name x px) iter σ G l)
    (he : ∀ d ∈ l, ∀ G' v, Same G G' → rp G' v d → ∀ s H C cl fp, Ev (BK X s H scope C cl fp) elt ((wipe σ [j]).set j (some v)) G' (f d))
    (hz : l.length < sizeLine) (hN : X.N.Nodup) (ok : BlkOk X.N X.env.scope scope [(x, j)]) (k : ∀ G' v, Same G G' → rp G' v (l.map f) → Bl X rest (σ.set i (some v)) G' N R)
    (hsw : swapsWith (.ListComp elt [⟨.Name x px, iter, [], 0⟩] scope pos) (some (.Name y py)) spos.line X.env = pure true := by rfl) (hx : X.N[j]? = some x := by rfl) (lx : Loc (relS scope X.env.scope) x := by first | exact Or.inl rfl | exact Or.inr rfl)
    (fx : (scope.names.lookup x == some .cell) = true ∨ (relS scope X.env.scope).names.lookup x = some .local := by first | exact .inr rfl | exact .inl rfl) (hc : X.calm = true := by rfl) (hy : X.N[i]? = some y := by rfl) (hyl : X.env.scope.names.lookup y = some .local := by rfl) (hs : ∀ x, foldedSetIterable iter X.env x = pure x := by intro _; rfl) :
    Bl X (.Assign [.Name y py] (.ListComp elt [⟨.Name x px, iter, [], 0⟩] scope pos) spos :: rest) σ G N R :=
  Bl.asgLc i (own := [(x, j)]) (f := f) (t := fun _ => true) hi tgB1 (fun _ _ _ _ _ => pg_name hN hx lx fx) (fun d hd G' σ' s1 _ s H C cl fp => ETs.nil) (fun d hd td G' σ' s1 ⟨v, r, e⟩ s H C cl fp => e ▸ he d hd G' v s1 r s H C cl fp) (fun _ _ _ b => wipe_b1 b) hz hN ok
    (fun G' v s1 r => k G' v s1 (by rwa [filter_yes] at r)) hsw hc hy hyl hs
theorem semi2 : (("; " : Str).length == 0) = false := by decide +kernel
section
variable {P : Program} {w : World} {K : PySem.W.Frag} {mg : Str → Option Value} {base : Heap} {f C : Addr} {fd : FuncData}
theorem c_names_of (D : C8.Def K mg "names_of" sNamesOf f fd) (b : Binds K fd ["text"] []) (cN : C8.Cal P w K mg base 1 "is_name" (P1 Zok isName) []) :
    C8.Cal P w K mg base 2 "names_of" (P1 (fun t => ∃ ns, Nok ns ∧ t = lineOfNames ns) namesOf) [] := by
  refine fn1 D b scNamesOf rfl fun cdv A outer s H E G v t hr r h => ?_
  obtain ⟨ns, hn, rfl⟩ := h
  have hlen := lon_len hn
  have hz : PyData.strOk (lineOfNames ns) = true := strOk_low fun c hc => by have := lon_signs hn.name c hc; omega
  refine Bl.ite (ET.eqD hr.units (Ev.v 0 rfl r) Ev.str hz (show PyData.strOk ("-" : Str) = true by decide +kernel)) (fun hh => Bl.rv (Ev.eq (Ev.opt Ev.nil) ?_)) fun hh => ?_
  · unfold namesOf
    rw [if_pos (of_decide_eq_true hh)]
  · have hne : ns ≠ [] := fun e => by subst e; exact absurd (show lineOfNames [] = "-" from if_pos rfl) (of_decide_eq_false hh)
    have a6 : sizeLine = 16777216 := rfl
    refine Bl.asg 1 (Ev.eq (Ev.split (Ev.v 0 rfl r) Ev.str (by decide +kernel) (by omega)) (lon_split hn.name hne)) (fun G' v' s1 r1 => ?_) scNamesOf.nd
    rw [namesOf_lon hn.name]
    have e : ns.filter (fun z => !isName z) = [] := filter_nil_iff.mpr fun z hz => by rw [hn.name z hz]; rfl
    refine Bl.rv (ev_iteF (ET.eq (ET.neD hr.units (Ev.lcSel 2 (t := fun z => !isName z) (EI.list (Ev.v 1 rfl r1)) (fun d hd G' v' s1 r' s H C cl fp => ET.not (ET.val (Ev.call1 cN hr (Ev.v 2 rfl r') (hn.lok.1 d hd)))) (sz64 hn.2) scNamesOf.nd (blkOk_by (N := nNamesOf) (sc := C8.fnScope sNamesOf) (by decide +kernel))) Ev.nil
      (fun a ha => hn.lok.lay a (List.mem_filter.mp ha).1) lay_nil) (by rw [e]; rfl)) (Ev.opt (Ev.v 1 rfl r1)))
theorem c_panel_of_text (D : C8.Def K mg "panel_of_text" sPanelOfText f fd) (b : Binds K fd ["text"] []) (B : Bt mg) (cN : C8.Cal P w K mg base 2 "names_of" (P1 (fun t => ∃ ns, Nok ns ∧ t = lineOfNames ns) namesOf) [])
    (cM : C8.Mak P w K mg base 5 "Panel" C (PI2 C panPre (fun es rs => (⟨sortS es, rs⟩ : Pan C))) []) :
    C8.Cal P w K mg base 7 "panel_of_text" (P1 (fun t => ∃ p : Pan C, PanGood p ∧ t = panelText p) (panelOfText C)) [] := by
  refine fn1 D b scPanelOfText rfl fun cdv A outer s H E G v t hr r h => ?_
  obtain ⟨p, hp, rfl⟩ := h
  have hlen := pan_len hp
  have a6 : sizeLine = 16777216 := rfl
  refine bl_asgMap 1 2 (f := namesOf) (EI.list (Ev.eq (Ev.split (Ev.v 0 rfl r) Ev.str semi2 (by omega)) (pan_split hp))) (fun x hx G' v' s1 r' s H C cl fp => Ev.call1 cN hr (Ev.v 2 rfl r') (by
    obtain ⟨z, hz, rfl⟩ := List.mem_map.mp hx
    exact ⟨z, (hp.row hz).1, rfl⟩)) (by rw [List.length_map]; exact hp.rok.sz) scPanelOfText.nd (blkOk_by (N := nPanelOfText) (sc := C8.fnScope sPanelOfText) (by decide +kernel)) (fun G' v' s1 r1 => ?_)
  rw [pan_rows hp] at r1
  rw [pan_back hp]
  have hl : Da.lay (p.orders.map some) := lay_somes hp.rok.lay
  have hno : ¬ some ([] : List Str) ∈ p.orders.map some := fun hh => by
    obtain ⟨z, hz, e⟩ := List.mem_map.mp hh
    cases e
    exact (hp.row hz).2.1 rfl
  obtain ⟨ns, os⟩ := p
  cases os with
  | nil => exact absurd rfl hp.2.2.2.1
  | cons o rest =>
    have ho := hp.row (r := o) List.mem_cons_self
    refine Bl.rv (ev_iteF (ET.eq (EW.t (EW.or (ET.inD hr.units65 Ev.nonO (Ev.v 1 rfl r1) lay_none hl) fun _ => EW.or1 (ET.inD hr.units65 (Ev.opt Ev.nil) (Ev.v 1 rfl r1) (lay_some lay_nil) hl))) (by rw [dno none_somes, dno hno]; rfl)) (Ev.opt (Ev.eq
      (Ev.make2 cM hr (Ev.sortedS B (Ev.ixL (l := o :: rest) (Ev.v 1 rfl (rp_some r1)) Ev.int at0) ho.1.2) (Ev.v 1 rfl (rp_some r1)) ?_) ?_)))
    · rw [ho.2.2]
      exact hp.pre
    · rw [ho.2.2, ← hp.2.1]
theorem c_line_of (D : C8.Def K mg "line_of" sLineOf f fd) (b : Binds K fd ["text"] []) (cN : C8.Cal P w K mg base 2 "names_of" (P1 (fun t => ∃ ns, Nok ns ∧ t = lineOfNames ns) namesOf) []) (cS : C8.Cal P w K mg base 4 "is_some_line" (P1 LnOk someLine) []) :
    C8.Cal P w K mg base 5 "line_of" (P1 (fun t => ∃ l, LnGood l ∧ t = textOfLine l) lineOf) [] := by
  refine fn1 D b scLineOf rfl fun cdv A outer s H E G v t hr r h => ?_
  obtain ⟨l, hl, rfl⟩ := h
  have hlen := tol_len hl
  have a6 : sizeLine = 16777216 := rfl
  obtain ⟨rs, e1, e2⟩ := tol_par hl
  have hp := hl.parts
  have hrl : rs.length ≤ 659 := by
    have : (Txt.partition (textOfLine l) " ").2.2 = rs := by rw [e1]
    obtain ⟨m, d1, d2, d3⟩ := tol_at l
    have h2 : (textOfLine l).length = (tl l.a).length + (1 + (tl l.c ++ (32 :: m ++ tl (lineOfNames l.b))).length) := by rw [d3, S_len]; simp only [List.length_append]; rfl
    have h3 : rs = S (tl l.c ++ (32 :: m ++ tl (lineOfNames l.b))) := by
      rw [← this, d3, blank, partition_some (p := tl l.a) (q := tl l.c ++ (32 :: m ++ tl (lineOfNames l.b))) (by decide) (par_head _ fun hc => by have := (word_zok hp.1).2.2 32 hc; omega)]
    rw [h3, S_len]
    omega
  rw [line_back hl]
  refine Bl.asg3 1 2 3 (Ev.eq (Ev.partition (Ev.v 0 rfl r) Ev.str (by decide +kernel) (by omega)) (show _ = T3.mk l.a (" " : Str) rs by rw [e1])) (fun G' x y z s1 q1 q2 q3 => ?_) scLineOf.nd
  refine Bl.ifF (ET.eq (ET.niT2 (Ev.v 1 rfl q1) (Ev.tup2 Ev.str Ev.str)) (by rw [decide_eq_true hp.1]; rfl)) ?_
  refine Bl.asg3 4 5 6 (Ev.eq (Ev.partition (y := midOf l.a) (Ev.v 3 rfl q3) (Ev.ite (ET.eqD hr.units (Ev.v 1 rfl q1) Ev.str hl.ok.1.2 (show PyData.strOk ("call" : Str) = true by decide +kernel)) (fun _ => Ev.str) fun _ => Ev.str) (by unfold midOf; split <;> decide +kernel) (show rs.length ≤ sizeLine by omega)) (show _ = T3.mk l.c (midOf l.a) (lineOfNames l.b) by rw [e2])) (fun G2 x2 y2 z2 s2 u1 u2 u3 => ?_) scLineOf.nd
  refine Bl.asg 7 (d := (⟨l.a, l.b, l.c⟩ : Ln)) (Ev.tup3 (Ev.v 1 rfl (rup s2 q1)) (ev_unopt (Ev.eq (Ev.call1 cN hr (Ev.v 6 rfl u3) ⟨l.b, hp.2.1, rfl⟩) (namesOf_lon hp.2.1.name))) (Ev.v 4 rfl u1)) (fun G3 v3 s3 r3 => ?_) scLineOf.nd
  have hmo : PyData.strOk (midOf l.a) = true := by unfold midOf; split <;> decide +kernel
  have hm : decide (midOf l.a = "") = false := by unfold midOf; split <;> decide +kernel
  exact Bl.rv (ev_iteT (ET.eq (EW.t (EW.and (ET.neD hr.units (Ev.v 5 rfl (rup s3 u2)) Ev.str hmo (show PyData.strOk ("" : Str) = true by decide +kernel)) fun _ => EW.and1 (ET.val (Ev.call1 cS hr (Ev.v 7 rfl r3) hl.ok)))) (by rw [hm, show someLine ⟨l.a, l.b, l.c⟩ = true from hl.1]; rfl)) (Ev.opt (Ev.v 7 rfl r3)))
theorem c_book_of_text (D : C8.Def K mg "book_of_text" sBookOfText f fd) (b : Binds K fd ["text"] []) (cN : C8.Cal P w K mg base 2 "names_of" (P1 (fun t => ∃ ns, Nok ns ∧ t = lineOfNames ns) namesOf) []) (cL : C8.Cal P w K mg base 5 "line_of" (P1 (fun t => ∃ l, LnGood l ∧ t = textOfLine l) lineOf) [])
    (cM : C8.Mak P w K mg base 7 "Book" C (PI2 C bkPre (mkBk : List Str → List Ln → Bk C)) []) (cE : C8.Met P w K mg base 1 C "entries" (P1 (fun _ : Bk C => True) (fun d => d.names)) []) (cT : C8.Met P w K mg base 2 C "lines" (P1 (fun d : Bk C => LnsOk d.told) (fun d => d.told)) []) :
    C8.Cal P w K mg base 9 "book_of_text" (P1 (fun t => ∃ d : Bk C, BkGood d ∧ t = bookText d) (bookOfText C)) [] := by
  refine fn1 D b scBookOfText rfl fun cdv A outer s H E G v t hr r h => ?_
  obtain ⟨d, hd, rfl⟩ := h
  have hlen := bk_len hd
  have a6 : sizeLine = 16777216 := rfl
  have hb := bk_back hd
  refine Bl.asg 1 (Ev.eq (Ev.split (Ev.v 0 rfl r) Ev.str semi2 (by omega)) (bk_split hd)) (fun G' v' s1 r1 => ?_) scBookOfText.nd
  rw [hb]
  refine Bl.par2 2 3 (d := d.names) (d2 := d.told.map some) (ev_unopt (Ev.eq (Ev.call1 cN hr (Ev.ixL (Ev.v 1 rfl r1) Ev.int at0) ⟨d.names, hd.1, rfl⟩) (namesOf_lon hd.1.name)))
    (Ev.eq (Ev.lcMap 4 (f := lineOf) (l := d.told.map textOfLine) (EI.list (Ev.eq (Ev.slFrom (Ev.v 1 rfl r1) (Ev.int (i := 1))) (cutL_from (n := 1)))) (fun x hx G' v' s1 r' s H C cl fp => Ev.call1 cL hr (Ev.v 4 rfl r') (by
      obtain ⟨z, hz, rfl⟩ := List.mem_map.mp hx
      exact ⟨z, (hd.2.2.2.2.2.2 z hz).1, rfl⟩)) (by rw [List.length_map]; exact hd.lns.sz) scBookOfText.nd (blkOk_by (N := nBookOfText) (sc := C8.fnScope sBookOfText) (by decide +kernel))) (by rw [List.map_map]; exact List.map_congr_left fun z hz => line_back (hd.2.2.2.2.2.2 z hz).1)) (fun G2 x y s2 q1 q2 => ?_) scBookOfText.nd
  refine Bl.ifF (ET.eq (EW.t (EW.or (et_isN (Ev.v 2 rfl q1)) fun _ => EW.or1 (ET.inD hr.units65 Ev.nonO (Ev.v 3 rfl q2) lay_none (lay_somes hd.lns.lay)))) (by rw [dno none_somes]; rfl)) ?_
  refine Bl.asg 5 (Ev.eq (Ev.make2 cM hr (Ev.v 2 rfl q1) (Ev.v 3 rfl (rp_some q2)) hd.pre) hd.made) (fun G3 v3 s3 r3 => ?_) scBookOfText.nd
  refine Bl.rv (ev_iteT (ET.eq (ET.eqD hr.units (Ev.tup2 (Ev.meth0 cE hr (bkM d (by decide) (by decide)) (Ev.v 5 rfl r3) trivial) (Ev.meth0 cT hr (bkM d (by decide) (by decide)) (Ev.v 5 rfl r3) hd.lns)) (Ev.tup2 (Ev.v 2 rfl (rup s3 q1)) (Ev.v 3 rfl (rup s3 (rp_some q2)))) (by exact ⟨hd.1.lok.lay, hd.lns.lay⟩) (by exact ⟨hd.1.lok.lay, hd.lns.lay⟩)) (decide_eq_true rfl)) (Ev.opt (Ev.v 5 rfl r3)))
theorem c_read_by {α : Type} [Rp α] [Nn α] {f0 : Addr} {k : Nat} {pre : Str → Prop} {g : Str → α} (D : C8.Def K mg "read_by" sReadBy f fd) (b : Binds K fd ["inner", "text"] []) (B : Bt mg) (c : C8.CalAt P w K mg base k f0 (P1 pre (fun t => some (g t)))) :
    C8.Cal P w K mg base (k + 1) "read_by" (PB f0 pre g) [] := by
  refine C8.cal0 D b .nil scReadBy (fun vs H Q E h => ?_) fun cdv A outer s H vs Q E hr h => ?_
  · obtain ⟨G, v, a, rfl, _⟩ := h
    rfl
  · obtain ⟨G, v, a, rfl, s1, r, p, kk⟩ := h
    refine ⟨_, pss_ws, ?_⟩
    refine (show Bl (BX P w K mg base nReadBy "read_by" sReadBy f cdv A outer s H E) (C8.fnBody sReadBy) (start nReadBy [.ref f0, v]) G (fun _ G => False) (RV (g a)) from ?_) G H _ (Same.refl G) s1 (fun G2 H2 _ g n => n.elim) fun G2 H2 v g r => kk G2 H2 v g r
    refine Bl.asg 2 (d := ()) Ev.non (fun G1 v1 s2 r1 => ?_) scReadBy.nd
    refine Bl.ifJ (fun σ' G' => ∃ u, σ' = [some (.ref f0), some v, some u] ∧ rp G' u (g a)) (ET.val (Ev.isiStr B (Ev.v 1 rfl (rup s2 r)))) (fun _ => ?_) (fun hh => nomatch hh) fun σ' G' s3 ⟨u, e, r3⟩ => ?_
    · refine Bl.try_ (fun σ' G' => ∃ u, σ' = [some (.ref f0), some v, some u] ∧ rp G' u (g a)) (Bl.asg 2 (Ev.callL 0 c hr rfl (Ev.v 1 rfl (rup s2 r)) p (Nat.le_refl _)) (fun G4 v4 s4 r4 => Bl.nil fun G5 s5 => ⟨v4, rfl, rup s5 r4⟩) scReadBy.nd) fun σ' G' s3 h => Bl.nil fun G5 s5 => ?_
      obtain ⟨u, e, r3⟩ := h
      exact ⟨u, e, rup s5 r3⟩
    · subst e
      exact Bl.ifF (et_isN (Ev.v 2 rfl r3)) (Bl.rv (Ev.v 2 rfl r3))
theorem c_read_panel {f0 : Addr} (D : C8.Def K mg "read_panel" sReadPanel f fd) (b : Binds K fd ["text"] []) (hm : mg "panel_of_text" = some (.ref f0)) (c : C8.Cal P w K mg base 8 "read_by" (PB f0 (fun t => ∃ p : Pan C, PanGood p ∧ t = panelText p) (fun t => ((panelOfText C t).getD ⟨[], []⟩))) []) :
    C8.Cal P w K mg base 9 "read_panel" (P1 (fun t => ∃ p : Pan C, PanGood p ∧ t = panelText p) (fun t => ((panelOfText C t).getD ⟨[], []⟩))) [] := by
  refine fn1 D b scReadPanel rfl fun cdv A outer s H E G v t hr r h => ?_
  exact Bl.rv (ev_callF (f := fun t => ((panelOfText C t).getD ⟨[], []⟩)) (a := t) c hr hm (Ev.v 0 rfl r) h)
theorem c_read_line {f0 : Addr} (D : C8.Def K mg "read_line" sReadLine f fd) (b : Binds K fd ["text"] []) (hm : mg "line_of" = some (.ref f0)) (c : C8.Cal P w K mg base 6 "read_by" (PB f0 (fun t => ∃ l, LnGood l ∧ t = textOfLine l) (fun t => ((lineOf t).getD ⟨"", [], ""⟩))) []) :
    C8.Cal P w K mg base 7 "read_line" (P1 (fun t => ∃ l, LnGood l ∧ t = textOfLine l) (fun t => ((lineOf t).getD ⟨"", [], ""⟩))) [] := by
  refine fn1 D b scReadLine rfl fun cdv A outer s H E G v t hr r h => ?_
  exact Bl.rv (ev_callF (f := fun t => ((lineOf t).getD ⟨"", [], ""⟩)) (a := t) c hr hm (Ev.v 0 rfl r) h)
theorem c_read_book {f0 : Addr} (D : C8.Def K mg "read_book" sReadBook f fd) (b : Binds K fd ["text"] []) (hm : mg "book_of_text" = some (.ref f0)) (c : C8.Cal P w K mg base 10 "read_by" (PB f0 (fun t => ∃ d : Bk C, BkGood d ∧ t = bookText d) (fun t => ((bookOfText C t).getD ⟨[], []⟩))) []) :
    C8.Cal P w K mg base 11 "read_book" (P1 (fun t => ∃ d : Bk C, BkGood d ∧ t = bookText d) (fun t => ((bookOfText C t).getD ⟨[], []⟩))) [] := by
  refine fn1 D b scReadBook rfl fun cdv A outer s H E G v t hr r h => ?_
  exact Bl.rv (ev_callF (f := fun t => ((bookOfText C t).getD ⟨[], []⟩)) (a := t) c hr hm (Ev.v 0 rfl r) h)
end
end T91

namespace T91
open PySem L2 D1 Rp
/-! ### the purse -/
/-- the numbers of a purse, of which at most b have been drawn by mixing -/
def PurseL (xs : List Int) (b : Int) : Prop := ∃ a s n t : Int, xs = [a, s, n, t] ∧ 0 ≤ n ∧ n ≤ b
def Purse (q : Addr) (b : Int) (G H : Hp) : Prop := G q = none ∧ ∃ xs : List Int, H q = some (.lst (xs.map V.int)) ∧ PurseL xs b
theorem Purse.le {q : Addr} {b b' : Int} {G H : Hp} (h : Purse q b G H) (hb : b ≤ b') : Purse q b' G H := by
  obtain ⟨h1, xs, h2, a, s, n, t, h3, h4, h5⟩ := h
  exact ⟨h1, xs, h2, a, s, n, t, h3, h4, by omega⟩
theorem Purse.gr {q : Addr} {b : Int} {G H G' H' : Hp} (h : Purse q b G H) (g : Gr G H G' H') : Purse q b G' H' := by
  obtain ⟨h1, xs, h2, h3⟩ := h
  exact ⟨g.f q h1 (by rw [h2]; exact fun z => nomatch z), xs, g.hh _ _ h2, h3⟩
theorem Purse.grM {q : Addr} {b : Int} {M : Addr → Prop} {G H G' H' : Hp} (h : Purse q b G H) (g : GrM M G H G' H') (hm : ¬ M q) : Purse q b G' H' := by
  obtain ⟨h1, xs, h2, h3⟩ := h
  exact ⟨g.f q h1 (by rw [h2]; exact fun z => nomatch z), xs, g.h _ _ hm h2, h3⟩
theorem Purse.some {q : Addr} {b : Int} {G H : Hp} (h : Purse q b G H) : ¬ H q = none := by
  obtain ⟨h1, xs, h2, h3⟩ := h
  rw [h2]
  exact fun z => nomatch z
abbrev Mq (q : Addr) : Addr → Prop := fun z => z = q
theorem rp_ints {G : Hp} {q : Addr} {xs : List Int} : rp (upd G q (.lst (xs.map V.int))) (.ref q) xs := ⟨q, _, rfl, upd_same, ints_to xs⟩
/-- a display, kept apart from what stands -/
theorem we_lstM {α : Type} [Rp α] {X : Cx} {σ : St} {G H : Hp} {pos : Pos} {es : List Expr} {xs : List α} {Q : VK} (s : Same G H) (t : EL X es σ G xs) (k : ∀ G2 H2 vs q, Gr G H G2 H2 → H2 q = none → Paired (rp G2) vs xs → Q (.ref q) (upd H2 q (.lst vs))) (hz : xs.length ≤ 1000 := by decide) : WE X (.List es pos) σ H Q :=
  WE.of (pe_lst (t := fun σ' H' Q' => ∀ pos pins s, Inv X pins σ' H' s → wpAny (model X.prog X.w) X.A (spliced (backTo pos (starEach es X.env))) (AP X pins σ' Q') X.xe s) ⟨fun pos pins s σ H Q I h => h pos pins s I⟩)
    (t G H _ (Same.refl _) s fun G2 H2 vs g r => ⟨by rw [r.length]; exact small_sz hz, fun q hq => k G2 H2 vs q g hq r⟩)
def mixed1 (m : Int) : Int := m * m + 40503
def mixedOf (s t a : Int) : Int := mixed1 ((s * 69069 + 104729 * t * t + 7919 * a + t) % 2147483647) % 2147483629 * 48271 % 2147483587
/-- what _law_draw asks and tells -/
def PDraw : Sp := fun vs H Q _ => ∃ G q m b, vs = [.ref q, .int m] ∧ Same G H ∧ Purse q b G H ∧ 1 ≤ m ∧ m < 2 ^ 27 ∧ b < 2 ^ 40 ∧ ∀ G' H' r, GrM (Mq q) G H G' H' → Purse q (b + 1) G' H' → 0 ≤ r → r < m → Q (.int r) H'
def PNew (K : PySem.W.Frag) : Sp := fun vs H Q _ => ∃ G u, ∃ sc : Scr K, ∃ i : Int, vs = [u, .int i] ∧ Same G H ∧ rp G u sc ∧ ∀ G' H' q, Gr G H G' H' → H q = none → ¬ H' q = none → Purse q 0 G' H' → Q (.ref q) H'
section
variable {P : Program} {w : World} {K : PySem.W.Frag} {mg : Str → Option Value} {base : Heap} {f C : Addr} {fd : FuncData}
theorem c_law_purse (D : C8.Def K mg "_law_purse" sLawPurse f fd) (b : Binds K fd ["script", "at"] []) (B : Bt mg) : C8.Cal P w K mg base 1 "_law_purse" (PNew K) [] := by
  refine C8.cal0 D b .nil scLawPurse (fun vs H Q E h => ?_) fun cdv A outer s H vs Q E hr h => ?_
  · obtain ⟨G, u, sc, i, rfl, _⟩ := h
    rfl
  · obtain ⟨G, u, sc, i, rfl, sG, r, kk⟩ := h
    refine ⟨_, pss_ws, ?_⟩
    refine ws_asg 2 (Same.refl G) sG (Ev.sumI B (Ev.sl2Q (Ev.v 0 rfl r) (Ev.v 1 rfl (show rp G (.int i) i from rfl)) (Ev.add (Ev.v 1 rfl (show rp G (.int i) i from rfl)) Ev.int))) (fun G2 H2 v g rv => ?_) scLawPurse.nd
    cases rv
    refine ws_retW (we_lstM (xs := [_, _, _, _]) g.s (EL.cons (Ev.mod (Ev.max2 B (Ev.sub (Ev.v 2 rfl rfl) (Ev.pow Ev.int Ev.int ⟨by decide, by decide⟩)) Ev.int) (Ev.pow (Ev.pow Ev.int Ev.int ⟨by decide, by decide⟩) Ev.int ⟨by decide, by decide +kernel⟩) (by decide +kernel)) (EL.cons (Ev.mod (Ev.v 2 rfl rfl) Ev.int (by decide)) (EL.cons Ev.int (EL.cons (Ev.v 1 rfl rfl) EL.nil)))) (fun G3 H3 vs q g3 hq pr => ?_) (show 4 ≤ 1000 by decide))
    have e1 := ints_of pr
    subst e1
    have gg := g.trans g3
    exact kk G3 _ q (gg.trans (Gr.newM gg.s hq)) (gg.fresh hq) (by rw [upd_same]; exact fun z => nomatch z) ⟨gg.s.free hq, _, upd_same, _, _, _, _, rfl, by decide, by decide⟩
theorem c_law_mixed (D : C8.Def K mg "_law_mixed" sLawMixed f fd) (b : Binds K fd ["seed", "turn", "at"] []) : C8.Cal P w K mg base 1 "_law_mixed" (P3 (fun _ t _ => -(2 ^ 64) < t ∧ t < 2 ^ 64) mixedOf) [] := by
  refine fn3 D b scLawMixed rfl fun cdv A outer s H E G u v x i t a hr r1 r2 r3 h => ?_
  have c1 : ∀ x : Int, CMul x 69069 := fun x => .inr ⟨by decide, by decide⟩
  have c2 : ∀ x : Int, CMul 104729 x := fun x => .inl ⟨by decide, by decide⟩
  have c3 : ∀ x : Int, CMul 7919 x := fun x => .inl ⟨by decide, by decide⟩
  have c4 : ∀ x : Int, CMul x 48271 := fun x => .inr ⟨by decide, by decide⟩
  have c5 : ∀ x : Int, CMul (x % 2147483647) (x % 2147483647) := fun x => by
    have h1 := Int.emod_nonneg x (show (2147483647 : Int) ≠ 0 by decide)
    have h2 := Int.emod_lt_of_pos x (show (0 : Int) < 2147483647 by decide)
    exact .inr ⟨by omega, by omega⟩
  refine Bl.asg 3 (Ev.add (Ev.mul (Ev.v 0 rfl r1) Ev.int (c1 _)) (Ev.mul (Ev.mul Ev.int (Ev.v 1 rfl r2) (c2 _)) (Ev.v 1 rfl r2) (.inr h))) (fun G1 v1 s1 q1 => ?_) scLawMixed.nd
  refine Bl.asg 3 (Ev.mod (Ev.add (Ev.add (Ev.v 3 rfl q1) (Ev.mul Ev.int (Ev.v 2 rfl (rup s1 r3)) (c3 _))) (Ev.v 1 rfl (rup s1 r2))) Ev.int (by decide)) (fun G2 v2 s2 q2 => ?_) scLawMixed.nd
  refine Bl.asg 3 (Ev.mod (Ev.add (Ev.mul (Ev.v 3 rfl q2) (Ev.v 3 rfl q2) (c5 _)) Ev.int) Ev.int (by decide)) (fun G3 v3 s3 q3 => ?_) scLawMixed.nd
  exact Bl.rv (Ev.mod (Ev.mul (Ev.v 3 rfl q3) Ev.int (c4 _)) Ev.int (by decide))
theorem bits_few {m : Int} (h : 1 ≤ m) (h2 : m < 2 ^ 27) : ((Builtin.Int.intBits m : Nat) : Int) / 28 = 0 := by
  have h3 : m.natAbs < 2 ^ 27 := by omega
  have h4 := PySem.Flt.log2_lt_of (show 0 < 27 by decide) h3
  unfold Builtin.Int.intBits
  split <;> omega
theorem c_law_draw (D : C8.Def K mg "_law_draw" sLawDraw f fd) (b : Binds K fd ["purse", "many"] []) (B : Bt mg) (cM : C8.Cal P w K mg base 1 "_law_mixed" (P3 (fun _ t _ => -(2 ^ 64) < t ∧ t < 2 ^ 64) mixedOf) []) : C8.Cal P w K mg base 2 "_law_draw" PDraw [] := by
  refine C8.cal0 D b .nil scLawDraw (fun vs H Q E h => ?_) fun cdv A outer s H vs Q E hr h => ?_
  · obtain ⟨G, q, m, b', rfl, _⟩ := h
    rfl
  · obtain ⟨G, q, m, b', rfl, sG, ⟨hq, xs, hxs, a, sd, n, t, rfl, hn0, hnb⟩, hm1, hm2, hb, kk⟩ := h
    refine ⟨_, pss_ws, ?_⟩
    have mm : ∀ G : Hp, rp G (.int m) m := fun _ => rfl
    refine ws_ifW (ET.borrow sG hq hxs (ET.gt (Ev.ixL (i := 0) (d := a) (Ev.v 0 rfl rp_ints) Ev.int (by rfl)) Ev.int) fun G2 H2 g2 n2 => ?_)
    have hx2 := g2.hh _ _ hxs
    by_cases ha : 0 < a
    · rw [show decide (a > 0) = true from decide_eq_true ha]
      refine iteT ?_
      refine ws_asgW 2 (Ev.borrow g2.s n2 hx2 (Ev.mod (Ev.ixL (i := 0) (d := a) (Ev.v 0 rfl rp_ints) Ev.int (by rfl)) (Ev.v 1 rfl (mm _)) (by omega)) fun G3 H3 v3 g3 n3 r3 => ?_) scLawDraw.nd
      cases r3
      have hx3 := g3.hh _ _ hx2
      refine ws_put 0 (Ev.borrow g3.s n3 hx3 (Ev.fdiv (Ev.ixL (i := 0) (d := a) (Ev.v 0 rfl rp_ints) Ev.int (by rfl)) (Ev.v 1 rfl (mm _)) ⟨by omega, by omega⟩) fun G4 H4 v4 g4 n4 r4 => ?_)
      cases r4
      have hx4 := g4.hh _ _ hx3
      refine ⟨q, _, 0, rfl, hx4, rfl, ?_⟩
      have gp : GrM (Mq q) G4 H4 G4 (upd H4 q (.lst ([a / m, sd, n, t].map V.int))) := GrM.put g4.s n4 rfl
      refine ws_retW (we_v 2 rfl ?_)
      refine kk G4 _ _ (((g2.trans g3).trans g4).any.trans gp) ⟨n4, _, upd_same, _, _, _, _, rfl, hn0, by omega⟩ (Int.emod_nonneg _ (by omega)) (Int.emod_lt_of_pos _ (by omega))
    · rw [show decide (a > 0) = false from decide_eq_false ha]
      refine iteF (ws_nil ?_)
      refine ws_asg 3 (Same.refl G2) g2.s Ev.int (fun G3 H3 v3 g3 r3 => ?_) scLawDraw.nd
      cases r3
      have hx3 := g3.hh _ _ hx2
      have n3 := g3.f q n2 (by rw [hx2]; exact fun z => nomatch z)
      refine ws_for (fun i σ' G' H' => ∃ fo pc, ∃ y : Int, σ' = [some (.ref q), some (.int m), none, some (.int fo), pc] ∧ GrM (Mq q) G H G' H' ∧ G' q = none ∧ H' q = some (.lst ([a, sd, y, t].map V.int)) ∧ 0 ≤ y ∧ y ≤ b' + i)
        (G := G3) (Same.refl _) g3.s (EI.range1 B.range (Ev.eq (Ev.add Ev.int (Ev.fdiv (Ev.bits (Ev.v 1 rfl (mm _))) Ev.int ⟨by decide, by decide⟩)) (show _ = (1 : Int) by rw [bits_few hm1 hm2]; rfl)) (by decide)) tgB1 (pg_name (i := 4) scLawDraw.nd rfl (Or.inl rfl))
        (fun G4 H4 g4 => ⟨0, none, n, rfl, ((g2.trans g3).trans g4).any, g4.f q n3 (by rw [hx3]; exact fun z => nomatch z), g4.hh _ _ hx3, hn0, by omega⟩) ?_ ?_ PassesOwn.never
      · rintro i c σ1 G4 H4 hc s34 s44 ⟨fo, pc, y, rfl, gA, nq, hy, y0, y1⟩ G5 H5 σ2 g5 ⟨lw, rl, rfl⟩
        have hi : i < 1 := by
          have := List.getElem?_eq_some_iff.mp hc
          obtain ⟨h1, _⟩ := this
          simpa [upto] using h1
        have n5 := g5.f q nq (by rw [hy]; exact fun z => nomatch z)
        have hy5 := g5.hh _ _ hy
        refine ws_put 0 (Ev.borrow g5.s n5 hy5 (Ev.add (Ev.ixL (i := 2) (d := y) (Ev.v 0 rfl rp_ints) Ev.int (by rfl)) Ev.int) fun G6 H6 v6 g6 n6 r6 => ?_)
        cases r6
        have hy6 := g6.hh _ _ hy5
        refine ⟨q, _, 2, rfl, hy6, rfl, ?_⟩
        have gp : GrM (Mq q) G6 H6 G6 (upd H6 q (.lst ([a, sd, y + 1, t].map V.int))) := GrM.put g6.s n6 rfl
        refine ws_asgW 3 (Ev.borrow (o := .lst ([a, sd, y + 1, t].map V.int)) gp.s n6 upd_same (Ev.add (Ev.mul (Ev.v 3 rfl (show rp _ (.int fo) fo from rfl)) Ev.int (.inr ⟨by decide, by decide⟩)) (Ev.call3 cM hr (Ev.ixL (i := 1) (d := sd) (Ev.v 0 rfl rp_ints) Ev.int (by rfl)) (Ev.ixL (i := 2) (d := y + 1) (Ev.v 0 rfl rp_ints) Ev.int (by rfl)) (Ev.ixL (i := 3) (d := t) (Ev.v 0 rfl rp_ints) Ev.int (by rfl)) ⟨by omega, by omega⟩)) fun G7 H7 v7 g7 n7 r7 => ?_) scLawDraw.nd
        cases r7
        refine ws_nil ⟨G7, g6.g.trans g7.g, g7.s, _, some lw, y + 1, rfl, ((gA.trans (g5.trans g6).any).trans gp).trans g7.any, n7, g7.hh _ _ upd_same, by omega, by omega⟩
      · rintro σ1 G4 H4 s34 s44 ⟨fo, pc, y, rfl, gA, nq, hy, y0, y1⟩
        refine ws_retW (Ev.ap s44 (Ev.mod (Ev.v 3 rfl (show rp _ (.int fo) fo from rfl)) (Ev.v 1 rfl (mm _)) (by omega)) fun G5 H5 v5 g5 r5 => ?_)
        cases r5
        refine kk G5 H5 _ (gA.trans g5.any) ⟨g5.f q nq (by rw [hy]; exact fun z => nomatch z), _, g5.hh _ _ hy, _, _, _, _, rfl, y0, ?_⟩ (Int.emod_nonneg _ (by omega)) (Int.emod_lt_of_pos _ (by omega))
        have : ((upto (1 : Int).toNat).length : Int) = 1 := rfl
        omega
end
end T91

namespace T91
open PySem L2 D1 Rp
/-! ### names that may stand twice; texts that are read anew each time -/
open SX
/-- names, some of them alike perhaps -/
def Nm (ns : List Str) : Prop := (∀ z ∈ ns, isName z = true) ∧ ns.length < 64
theorem Nok.nm {ns : List Str} (h : Nok ns) : Nm ns := ⟨h.name, h.2⟩
theorem Nm.lok {ns : List Str} (h : Nm ns) : Lok ns := ⟨fun z hz => isName_zok (h.1 z hz), h.2⟩
theorem lon_len2 {ns : List Str} (h : Nm ns) : (lineOfNames ns).length ≤ 641 := by
  unfold lineOfNames
  split
  · rw [dash]; decide
  · rw [comma, join_at, S_len]
    have h1 := joinL_le [44, 32] (ns.map tl)
    have h2 := sum_le (fun z : Str => z.length) 8 ns fun z hz => (isName_at (h.1 z hz)).2.1
    have h3 : (ns.map tl).map (·.length) = ns.map (·.length) := by rw [List.map_map]; exact List.map_congr_left fun z _ => by simp [tl, Str.length]
    rw [h3, List.length_map] at h1
    have h4 := h.2
    have h5 : ([44, 32] : List Nat).length = 2 := rfl
    rw [h5] at h1
    have h6 : (ns.map (fun z : Str => z.length)).sum ≤ ns.length * 8 := h2
    omega
theorem lon_ok {ns : List Str} (h : Nm ns) : PyData.strOk (lineOfNames ns) = true := strOk_low fun c hc => by have := lon_signs h.1 c hc; omega
/-- with a def in hand, what is told is new -/
def PBF {α β : Type} [Rp α] [Rp β] (f0 : Addr) (pre : α → Prop) (f : α → β) : Sp := fun vs H Q _ => ∃ G v a, vs = [.ref f0, v] ∧ Same G H ∧ rp G v a ∧ pre a ∧ ∀ G' H' w, Gr G H G' H' → rp (dif G' H) w (f a) → Q w H'
theorem PBF.imp {α β : Type} [Rp α] [Rp β] {f0 : Addr} {pre : α → Prop} {f : α → β} {vs : List V} {H : Hp} {Q : VK} {E : XK} (h : PB f0 pre f vs H Q E) : PBF f0 pre f vs H Q E := by
  obtain ⟨G, v, a, e, s, r, p, k⟩ := h
  exact ⟨G, v, a, e, s, r, p, fun G' H' w g r => k G' H' w g (rup dif_same r)⟩
theorem evF_callF {α β : Type} [Rp α] [Rp β] {X : Cx} {e : Expr} {σ : St} {G : Hp} {pos p q : Pos} {x y : Str} {k j : Nat} {f0 : Addr} {pre : α → Prop} {f : α → β} {a : α} (c : C8.Cal X.prog X.w X.K X.mg X.base k x (PBF f0 pre f) []) (hr : Room j X.A) (hm : X.mg y = some (.ref f0)) (ha : Ev X e σ G a) (hp : pre a) (hk : k ≤ j := by decide) (hg : Gl X x := by rfl) (hgy : Gl X y := by rfl)
    (hdb : (x == ("__debug__" : Str)) = false := by decide) (hdy : (y == ("__debug__" : Str)) = false := by decide) (hs : starEach [.Name y q, e] X.env = (false, eval (.Name y q) X.env) :: starEach [e] X.env := by rfl) (hs2 : starEach [e] X.env = (false, eval e X.env) :: starEach [] X.env := by rfl) (hpl : (backTo pos (starEach [e] X.env)).any (·.1) = false := by rfl) : EvF X (.Call (.Name x p) [.Name y q, e] [] pos) σ G (f a) := fun G1 H1 Q s1 s2 kk =>
  WE.of (C8.pe_c c hr hk hg (pa_cons (pe_glob (v := .ref f0) hgy hm rfl hdy) (pa_cons pe_we pa_nil hs2) hs) hdb hs hpl) (ha G1 H1 _ s1 s2 fun G2 H2 v g r => ⟨G2, v, a, rfl, g.s, r, hp, fun G3 H3 w g2 r2 => kk G3 H3 w (g.trans g2) (rup g.difs r2)⟩)
section
variable {P : Program} {w : World} {K : PySem.W.Frag} {mg : Str → Option Value} {base : Heap} {f C : Addr} {fd : FuncData}
/-- a def of one argument whose answer is new -/
theorem fn1F {α β : Type} [Rp α] [Rp β] {x : Str} {st : Stmt} {N ps : List Str} {k : Nat} {pre : α → Prop} {g : α → β} (D : C8.Def K mg x st f fd) (b : Binds K fd ps []) (S : FnScope N ps (C8.fnScope st)) (hl : ps.length = 1)
    (body : ∀ (cdv : Value) (A : Around) (outer : List Env) (s : Shared) (H : Hp) (E : XK) (G : Hp) (v : V) (a : α) (Q : VK), Room k (BX P w K mg base N x st f cdv A outer s H E).A → Same G H → rp G v a → pre a → (∀ G' H' u, Gr G H G' H' → rp (dif G' H) u (g a) → Q u H') →
      WS (BX P w K mg base N x st f cdv A outer s H E) (C8.fnBody st) { nx := fun _ H' => Q .non H', rt := Q } (start N [v]) H) : C8.Cal P w K mg base (k + 1) x (P1F pre g) [] := by
  refine C8.cal0 D b .nil S (fun vs H Q E h => ?_) fun cdv A outer s H vs Q E hr h => ?_
  · obtain ⟨G, v, a, rfl, _⟩ := h
    exact hl.symm
  · obtain ⟨G, v, a, rfl, s1, r, p, kk⟩ := h
    exact ⟨_, pss_ws, body cdv A outer s H E G v a Q hr s1 r p kk⟩
theorem c_line_of_names2 (D : C8.Def K mg "line_of_names" sLineOfNames f fd) (b : Binds K fd ["names"] []) :
    C8.Cal P w K mg base 1 "line_of_names" (P1 Nm lineOfNames) [] := by
  refine fn1 D b scLineOfNames rfl fun cdv A outer s H E G v l hr r h => ?_
  refine Bl.rv (Ev.eq (Ev.ite (ET.eqD hr.units (Ev.v 0 rfl r) Ev.nil h.lok.lay lay_nil) (fun _ => Ev.str) fun _ => Ev.join Ev.str (Ev.v 0 rfl r) ?_) ?_)
  · have h2 := sum_le (fun z : Str => z.length) 8 l fun z hz => (isName_at (h.1 z hz)).2.1
    have h4 := h.2
    have h5 : (", " : Str).length = 2 := by decide +kernel
    have h6 : (l.map (fun z : Str => z.length)).sum ≤ l.length * 8 := h2
    rw [h5]
    omega
  · unfold lineOfNames
    by_cases e : l = []
    · rw [if_pos e, decide_eq_true e]; rfl
    · rw [if_neg e, decide_eq_false e]; rfl
theorem c_names_ofF (D : C8.Def K mg "names_of" sNamesOf f fd) (b : Binds K fd ["text"] []) (cN : C8.Cal P w K mg base 1 "is_name" (P1 Zok isName) []) :
    C8.Cal P w K mg base 2 "names_of" (P1F (fun t => ∃ ns, Nm ns ∧ t = lineOfNames ns) namesOf) [] := by
  refine fn1F D b scNamesOf rfl fun cdv A outer s H E G v t Q hr sG r h kk => ?_
  obtain ⟨ns, hn, rfl⟩ := h
  have hlen := lon_len2 hn
  rw [namesOf_lon hn.1] at kk
  refine ws_if (Same.refl G) sG (ET.eqD hr.units (Ev.v 0 rfl r) Ev.str (lon_ok hn) (show PyData.strOk ("-" : Str) = true by decide +kernel)) (fun hh G2 H2 g2 => ?_) fun hh G2 H2 g2 => ?_
  · have hne : ns = [] := by
      by_cases e : ns = []
      · exact e
      · exact absurd (of_decide_eq_true hh) (lon_ne hn.1 e)
    subst hne
    exact ws_retW (EvF.ap g2.s (EvF.opt EvF.nil) fun G3 H3 u g3 r3 => kk G3 H3 u (g2.trans g3) (rup g2.difs r3))
  · have hne : ns ≠ [] := fun e => by subst e; exact absurd (show lineOfNames [] = "-" from if_pos rfl) (of_decide_eq_false hh)
    have a6 : sizeLine = 16777216 := rfl
    refine ws_nil (ws_asgW 1 (EvF.ap g2.s (EvF.eq (EvF.split (Ev.v 0 rfl (rup g2.g r)) Ev.str (by decide +kernel) (by omega)) (lon_split hn.1 hne)) fun G3 H3 u g3 r3 => ?_) scNamesOf.nd)
    have e : ns.filter (fun z => !isName z) = [] := filter_nil_iff.mpr fun z hz => by rw [hn.1 z hz]; rfl
    have r3' := rup dif_same r3
    refine ws_retW (we_ifF g3.s (ET.eq (ET.neD hr.units (Ev.lcSel 2 (t := fun z => !isName z) (EI.list (Ev.v 1 rfl r3')) (fun d hd G' v' s1 r' s H C cl fp => ET.not (ET.val (Ev.call1 cN hr (Ev.v 2 rfl r') (hn.lok.1 d hd)))) (sz64 hn.2) scNamesOf.nd (blkOk_by (N := nNamesOf) (sc := C8.fnScope sNamesOf) (by decide +kernel))) Ev.nil
      (fun a ha => hn.lok.lay a (List.mem_filter.mp ha).1) lay_nil) (by rw [e]; rfl)) fun G4 H4 g4 => we_v 1 rfl ?_)
    exact kk G4 H4 u ((g2.trans g3).trans g4) (rup (dif_up g4.g) (rup g2.difs r3))
theorem c_read_byF {α : Type} [Rp α] [Nn α] {f0 : Addr} {k : Nat} {pre : Str → Prop} {g : Str → α} (D : C8.Def K mg "read_by" sReadBy f fd) (b : Binds K fd ["inner", "text"] []) (B : Bt mg) (c : C8.CalAt P w K mg base k f0 (P1F pre (fun t => some (g t)))) :
    C8.Cal P w K mg base (k + 1) "read_by" (PBF f0 pre g) [] := by
  refine C8.cal0 D b .nil scReadBy (fun vs H Q E h => ?_) fun cdv A outer s H vs Q E hr h => ?_
  · obtain ⟨G, v, a, rfl, _⟩ := h
    rfl
  · obtain ⟨G, v, a, rfl, s1, r, p, kk⟩ := h
    refine ⟨_, pss_ws, ?_⟩
    refine ws_asg 2 (Same.refl G) s1 (d := ()) Ev.non (fun G1 H1 v1 g1 r1 => ?_) scReadBy.nd
    refine ws_if (Same.refl G1) g1.s (ET.val (Ev.isiStr B (Ev.v 1 rfl (rup g1.g r)))) (fun _ G2 H2 g2 => ?_) (fun hh => nomatch hh)
    refine ws_try (ws_asgW 2 (EvF.ap g2.s (EvF.unopt (EvF.callL (f := fun t => some (g t)) 0 c hr rfl (Ev.v 1 rfl (rup (g1.trans g2).g r)) p (Nat.le_refl _))) fun G3 H3 u g3 r3 => ?_) scReadBy.nd)
    have r3' := rup dif_same r3
    refine ws_nil (ws_nil (ws_ifF (Same.refl G3) g3.s (et_isN (Ev.v 2 rfl r3')) fun G4 H4 g4 => ws_retW (we_v 2 rfl ?_)))
    exact kk G4 H4 u (((g1.trans g2).trans g3).trans g4) (rup (dif_up g4.g) (rup (g1.trans g2).difs r3))
theorem c_read_namesF {f0 : Addr} (D : C8.Def K mg "read_names" sReadNames f fd) (b : Binds K fd ["text"] []) (hm : mg "names_of" = some (.ref f0)) (c : C8.Cal P w K mg base 3 "read_by" (PBF f0 (fun t => ∃ ns, Nm ns ∧ t = lineOfNames ns) (fun t => (namesOf t).getD [])) []) :
    C8.Cal P w K mg base 4 "read_names" (P1F (fun t => ∃ ns, Nm ns ∧ t = lineOfNames ns) (fun t => (namesOf t).getD [])) [] := by
  refine fn1F D b scReadNames rfl fun cdv A outer s H E G v t Q hr sG r h kk => ?_
  exact ws_retW (EvF.ap sG (evF_callF (f := fun t => (namesOf t).getD []) (a := t) c hr hm (Ev.v 0 rfl r) h) fun G3 H3 u g3 r3 => kk G3 H3 u g3 r3)
theorem c_line_ofF (D : C8.Def K mg "line_of" sLineOf f fd) (b : Binds K fd ["text"] []) (cN : C8.Cal P w K mg base 2 "names_of" (P1F (fun t => ∃ ns, Nm ns ∧ t = lineOfNames ns) namesOf) []) (cS : C8.Cal P w K mg base 4 "is_some_line" (P1 LnOk someLine) []) :
    C8.Cal P w K mg base 5 "line_of" (P1F (fun t => ∃ l, LnGood l ∧ t = textOfLine l) lineOf) [] := by
  refine fn1F D b scLineOf rfl fun cdv A outer s H E G v t Q hr sG r h kk => ?_
  obtain ⟨l, hl, rfl⟩ := h
  have hlen := tol_len hl
  have a6 : sizeLine = 16777216 := rfl
  obtain ⟨rs, e1, e2⟩ := tol_par hl
  have hp := hl.parts
  have hrl : rs.length ≤ 659 := by
    have : (Txt.partition (textOfLine l) " ").2.2 = rs := by rw [e1]
    obtain ⟨m, d1, d2, d3⟩ := tol_at l
    have h2 : (textOfLine l).length = (tl l.a).length + (1 + (tl l.c ++ (32 :: m ++ tl (lineOfNames l.b))).length) := by rw [d3, S_len]; simp only [List.length_append]; rfl
    have h3 : rs = S (tl l.c ++ (32 :: m ++ tl (lineOfNames l.b))) := by
      rw [← this, d3, blank, partition_some (p := tl l.a) (q := tl l.c ++ (32 :: m ++ tl (lineOfNames l.b))) (by decide) (par_head _ fun hc => by have := (word_zok hp.1).2.2 32 hc; omega)]
    rw [h3, S_len]
    omega
  rw [line_back hl] at kk
  refine ws_asg3 1 2 3 (Same.refl G) sG (Ev.eq (Ev.partition (Ev.v 0 rfl r) Ev.str (by decide +kernel) (by omega)) (show _ = T3.mk l.a (" " : Str) rs by rw [e1])) (fun G1 H1 x y z g1 q1 q2 q3 => ?_) scLineOf.nd
  refine ws_ifF (Same.refl G1) g1.s (ET.eq (ET.niT2 (Ev.v 1 rfl q1) (Ev.tup2 Ev.str Ev.str)) (by rw [decide_eq_true hp.1]; rfl)) fun G2 H2 g2 => ?_
  refine ws_asg3 4 5 6 (Same.refl G2) g2.s (Ev.eq (Ev.partition (y := midOf l.a) (Ev.v 3 rfl (rup g2.g q3)) (Ev.ite (ET.eqD hr.units (Ev.v 1 rfl (rup g2.g q1)) Ev.str hl.ok.1.2 (show PyData.strOk ("call" : Str) = true by decide +kernel)) (fun _ => Ev.str) fun _ => Ev.str) (by unfold midOf; split <;> decide +kernel) (show rs.length ≤ sizeLine by omega)) (show _ = T3.mk l.c (midOf l.a) (lineOfNames l.b) by rw [e2])) (fun G3 H3 x2 y2 z2 g3 u1 u2 u3 => ?_) scLineOf.nd
  refine ws_asgW 7 (EvF.ap (d := (⟨l.a, l.b, l.c⟩ : Ln)) g3.s (EvF.tup3 (EvF.str (Ev.v 1 rfl (rup (g2.trans g3).g q1))) (EvF.unopt (EvF.eq (EvF.call1 cN hr (Ev.v 6 rfl u3) ⟨l.b, hp.2.1.nm, rfl⟩) (namesOf_lon hp.2.1.name))) (EvF.str (Ev.v 4 rfl u1))) fun G4 H4 fw g4 r4 => ?_) scLineOf.nd
  have hmo : PyData.strOk (midOf l.a) = true := by unfold midOf; split <;> decide +kernel
  have hm : decide (midOf l.a = "") = false := by unfold midOf; split <;> decide +kernel
  have r4' := rup dif_same r4
  refine ws_retW (we_ifT g4.s (ET.eq (EW.t (EW.and (ET.neD hr.units (Ev.v 5 rfl (rup g4.g u2)) Ev.str hmo (show PyData.strOk ("" : Str) = true by decide +kernel)) fun _ => EW.and1 (ET.val (Ev.call1 cS hr (Ev.v 7 rfl r4') hl.ok)))) (by rw [hm, show someLine ⟨l.a, l.b, l.c⟩ = true from hl.1]; rfl)) fun G5 H5 g5 => we_v 7 rfl ?_)
  have g14 := ((g1.trans g2).trans g3)
  exact kk G5 H5 fw ((g14.trans g4).trans g5) (rup (dif_up g5.g) (rup g14.difs r4))
theorem c_read_lineF {f0 : Addr} (D : C8.Def K mg "read_line" sReadLine f fd) (b : Binds K fd ["text"] []) (hm : mg "line_of" = some (.ref f0)) (c : C8.Cal P w K mg base 6 "read_by" (PBF f0 (fun t => ∃ l, LnGood l ∧ t = textOfLine l) (fun t => ((lineOf t).getD ⟨"", [], ""⟩))) []) :
    C8.Cal P w K mg base 7 "read_line" (P1F (fun t => ∃ l, LnGood l ∧ t = textOfLine l) (fun t => ((lineOf t).getD ⟨"", [], ""⟩))) [] := by
  refine fn1F D b scReadLine rfl fun cdv A outer s H E G v t Q hr sG r h kk => ?_
  exact ws_retW (EvF.ap sG (evF_callF (f := fun t => ((lineOf t).getD ⟨"", [], ""⟩)) (a := t) c hr hm (Ev.v 0 rfl r) h) fun G3 H3 u g3 r3 => kk G3 H3 u g3 r3)
end
end T91

namespace T91
open PySem L2 D1 Rp
/-! ### what is drawn -/
def PPurses (K : PySem.W.Frag) : Sp := fun vs H Q _ => ∃ G u, ∃ sc : Scr K, ∃ n : Nat, vs = [u, .int (n : Int)] ∧ Same G H ∧ rp G u sc ∧ 1 ≤ n ∧ n < 1000 ∧ ∀ G' H' w (qs : List Adr), Gr G H G' H' → rp G' w qs → qs.Nodup → qs.length ≤ n → (∀ q ∈ qs, H q.p = none ∧ Purse q.p 0 G' H') → Q w H'
def PShuf (α : Type) [Rp α] : Sp := fun vs H Q _ => ∃ G q v, ∃ l : List α, ∃ b : Int, vs = [.ref q, v] ∧ Same G H ∧ Purse q b G H ∧ rp G v l ∧ l.length < 1000 ∧ b < 2 ^ 38 ∧ ∀ G' H' w (l' : List α), GrM (Mq q) G H G' H' → Purse q (b + (l.length : Nat)) G' H' → l'.Perm l → rp G' w l' → Q w H'
def PWord : Sp := fun vs H Q _ => ∃ G q, ∃ b : Int, vs = [.ref q] ∧ Same G H ∧ Purse q b G H ∧ b < 2 ^ 38 ∧ ∀ G' H' z, GrM (Mq q) G H G' H' → Purse q (b + 9) G' H' → isName z = true → Q (.str z) H'
def PWords : Sp := fun vs H Q _ => ∃ G q, ∃ n : Nat, ∃ b : Int, vs = [.ref q, .int (n : Int)] ∧ Same G H ∧ Purse q b G H ∧ n ≤ 8 ∧ b < 2 ^ 37 ∧ ∀ G' H' w (l : List Str), GrM (Mq q) G H G' H' → Purse q (b + 18) G' H' → l.length = n → SortedS l → l.Nodup → (∀ z ∈ l, isName z = true) → rp G' w l → Q w H'
theorem Purse.off {q p : Addr} {b : Int} {o : HO} {G H : Hp} (h : Purse q b G H) (hp : q ≠ p) : Purse q b G (upd H p o) := by
  obtain ⟨h1, xs, h2, h3⟩ := h
  exact ⟨h1, xs, by rw [upd_ne hp]; exact h2, h3⟩
theorem Purse.up {q : Addr} {b : Int} {o : HO} {p : Addr} {G H : Hp} (h : Purse q b G H) (hp : q ≠ p) : Purse q b (upd G p o) H := by
  obtain ⟨h1, xs, h2, h3⟩ := h
  exact ⟨by rw [upd_ne hp]; exact h1, xs, h2, h3⟩
theorem perm_insert {α : Type} {l m : List α} {c : α} (n : Nat) (h : l.Perm m) : (l.take n ++ [c] ++ l.drop n).Perm (m ++ [c]) := by
  have h1 : (l.take n ++ [c] ++ l.drop n).Perm (l ++ [c]) := by
    have e : l ++ [c] = l.take n ++ (l.drop n ++ [c]) := by rw [← List.append_assoc, List.take_append_drop]
    rw [e, List.append_assoc]
    exact List.Perm.append_left _ (List.perm_append_comm)
  exact h1.trans (h.append_right _)
theorem take_snoc {α : Type} {l : List α} {i : Nat} {c : α} (h : l[i]? = some c) : l.take (i + 1) = l.take i ++ [c] := by rw [List.take_succ, h]; rfl
section
variable {P : Program} {w : World} {K : PySem.W.Frag} {mg : Str → Option Value} {base : Heap} {f C : Addr} {fd : FuncData}
theorem c_purses (D : C8.Def K mg "_law_purses" sLawPurses f fd) (b : Binds K fd ["script", "few"] []) (B : Bt mg) (cN : C8.Cal P w K mg base 1 "_law_purse" (PNew K) []) : C8.Cal P w K mg base 2 "_law_purses" (PPurses K) [] := by
  refine C8.cal0 D b .nil scLawPurses (fun vs H Q E h => ?_) fun cdv A outer s H vs Q E hr h => ?_
  · obtain ⟨G, u, sc, n, rfl, _⟩ := h
    rfl
  · obtain ⟨G, u, sc, n, rfl, sG, r, hn, hn2, kk⟩ := h
    refine ⟨_, pss_ws, ?_⟩
    have hv : ∃ m : Nat, ((m : Int) = if (if ((sc.l.length : Nat) : Int) < (n : Int) then ((sc.l.length : Nat) : Int) else (n : Int)) > 1 then (if ((sc.l.length : Nat) : Int) < (n : Int) then ((sc.l.length : Nat) : Int) else (n : Int)) else 1) ∧ m ≤ n := by
      have hx : ∀ x : Int, x = (if ((sc.l.length : Nat) : Int) < (n : Int) then ((sc.l.length : Nat) : Int) else (n : Int)) → 0 ≤ x ∧ x ≤ n := fun x e => by
        split at e <;> omega
      generalize hxe : (if ((sc.l.length : Nat) : Int) < (n : Int) then ((sc.l.length : Nat) : Int) else (n : Int)) = x
      have hx2 := hx x hxe.symm
      refine ⟨Int.toNat (if x > 1 then x else 1), ?_, ?_⟩ <;> split <;> omega
    obtain ⟨m, hm, hmn⟩ := hv
    refine ws_retW (we_lcI (own := [("at", 2)]) (l := upto (m : Int).toNat) (fun D i acc G' H' => Gr G H G' H' ∧ ∃ qs : List Adr, acc = qs.map (fun a => V.ref a.p) ∧ qs.Nodup ∧ qs.length = i ∧ ∀ q ∈ qs, H q.p = none ∧ q.p ≠ D ∧ Purse q.p 0 G' H')
      (Same.refl G) sG (EI.range1 B.range (Ev.eq (Ev.max2 B Ev.int (Ev.min2 B (Ev.v 1 rfl (show rp _ (.int (n : Int)) (n : Int) from rfl)) (Ev.lenQ B (Ev.v 0 rfl r)))) hm.symm) ⟨by omega, by omega⟩) (tgB1 (i := 2)) (fun s H C cl fp => pg_name scLawPurses.nd rfl (Or.inl rfl) (Or.inr rfl))
      (fun G2 H2 D g2 hD => ⟨g2.trans (Gr.newM g2.s hD), [], rfl, List.nodup_nil, rfl, fun q hq => by cases hq⟩) ?_ ?_ (fun _ _ _ b => wipe_b1 b) (fun c G' G'' σ1 σ' s1 b => by obtain ⟨v, r, e⟩ := b; exact ⟨v, rup s1 r, e⟩) (by simp [upto]; exact Nat.lt_of_le_of_lt hmn (Nat.lt_trans hn2 (by decide))) scLawPurses.nd (blkOk_by (N := nLawPurses) (sc := C8.fnScope sLawPurses) (by decide +kernel)))
    · rintro D i c acc G2 H2 hc s12 s22 gD hacc hlen hD1 ⟨gA, qs, rfl, hnd, hql, hq⟩ G3 H3 σ' g3 ⟨v, rv, rfl⟩ s0 H0 C cl fp
      cases rv
      refine we_call2 cN hr (we_v 0 rfl (we_v 2 rfl ?_))
      have g03 := gA.trans g3
      have gD3 := g3.f D gD (by rw [hacc]; exact fun z => nomatch z)
      have hD3 := g3.hh _ _ hacc
      refine ⟨G3, u, sc, c, rfl, g3.s, rup g03.g r, fun G4 H4 q g4 hq3 hq4 pq => ?_⟩
      have g04 := g03.trans g4
      have gD4 := g4.f D gD3 (by rw [hD3]; exact fun z => nomatch z)
      have hD4 := g4.hh _ _ hD3
      have qD : q ≠ D := fun e => by subst e; rw [hD3] at hq3; cases hq3
      refine ⟨G4, g4.g, g4.s, gD4, hD4, g04.off hD1 gD4, qs ++ [⟨q⟩], by rw [List.map_append]; rfl, ?_, by rw [List.length_append, hql]; rfl, fun q' hq' => ?_⟩
      · refine List.nodup_append.mpr ⟨hnd, by simp, fun x hx y hy e => ?_⟩
        rw [List.mem_singleton] at hy
        subst hy
        subst e
        exact (((hq _ hx).2.2).gr g3).some hq3
      · rcases List.mem_append.mp hq' with hq' | hq'
        · exact ⟨(hq q' hq').1, (hq q' hq').2.1, (((hq q' hq').2.2.gr g3).gr g4).off (hq q' hq').2.1⟩
        · rw [List.mem_singleton] at hq'
          subst hq'
          exact ⟨gA.fresh (g3.fresh hq3), qD, pq.off qD⟩
    · rintro D acc G2 H2 s12 s22 gD hacc hD1 ⟨gA, qs, rfl, hnd, hql, hq⟩
      have hlen : qs.length ≤ n := by
        rw [hql]; simp [upto]; exact hmn
      exact kk (upd G2 D (.lst (qs.map fun a => V.ref a.p))) H2 _ qs (gA.promote hD1 gD hacc) ⟨D, _, rfl, upd_same, refs_to qs⟩ hnd hlen fun q hq' => ⟨(hq q hq').1, (hq q hq').2.2.up (hq q hq').2.1⟩
theorem c_shuffled {α : Type} [Rp α] (D : C8.Def K mg "_law_shuffled" sLawShuffled f fd) (b : Binds K fd ["purse", "some"] []) (B : Bt mg) (cD : C8.Cal P w K mg base 2 "_law_draw" PDraw []) : C8.Cal P w K mg base 3 "_law_shuffled" (PShuf α) [] := by
  refine C8.cal0 D b .nil scLawShuffled (fun vs H Q E h => ?_) fun cdv A outer s H vs Q E hr h => ?_
  · obtain ⟨G, q, v, l, b', rfl, _⟩ := h
    rfl
  · obtain ⟨G, q, v, l, b', rfl, sG, pq, r, hl, hb, kk⟩ := h
    refine ⟨_, pss_ws, ?_⟩
    refine ws_asgW 2 (we_lstM (xs := ([] : List α)) sG EL.nil (fun G1 H1 vs fo g1 hfo pr => ?_) (show 0 ≤ 1000 by decide)) scLawShuffled.nd
    cases pr
    have hfo0 := g1.fresh hfo
    have pq1 := pq.gr g1
    have qfo : q ≠ fo := fun e => by subst e; exact pq.some hfo0
    have gfo1 := g1.s.free hfo
    have g1' := g1.trans (Gr.newM (o := .lst []) g1.s hfo)
    refine ws_for (fun i σ' G' H' => ∃ acc it, ∃ l' : List α, σ' = [some (.ref q), some v, some (.ref fo), it] ∧ GrM (Mq q) G H G' H' ∧ Purse q (b' + (i : Nat)) G' H' ∧ G' fo = none ∧ H' fo = some (.lst acc) ∧ Paired (rp G') acc l' ∧ l'.Perm (l.take i))
      (G := G1) (Same.refl _) g1'.s (EI.list (Ev.v 1 rfl (rup g1.g r))) tgB1 (pg_name (i := 3) scLawShuffled.nd rfl (Or.inl rfl))
      (fun G2 H2 g2 => ⟨[], none, [], rfl, (g1'.trans g2).any, ((pq1.off qfo).gr g2).le (by omega), g2.f fo gfo1 (by rw [upd_same]; exact fun z => nomatch z), g2.hh _ _ upd_same, .nil, by rw [List.take_zero]⟩) ?_ ?_ PassesOwn.never
    · rintro i c σ1 G2 H2 hc s12 s22 ⟨acc, it, l', rfl, gA, p2, nf, hf, pr, pm⟩ G3 H3 σ2 g3 ⟨lw, rl, rfl⟩
      have nf3 := g3.f fo nf (by rw [hf]; exact fun z => nomatch z)
      have hf3 := g3.hh _ _ hf
      have pr3 : Paired (rp G3) acc l' := pmono pr fun _ _ => rup g3.g
      have hi : i < l.length := (List.getElem?_eq_some_iff.mp hc).1
      have hl' : l'.length = i := by rw [pm.length_eq, List.length_take]; omega
      have ha : acc.length = i := pr.length.trans hl'
      refine ws_exprW (WE.of (pe_bm PySem.F.plainAttrs_list PySem.F.slot_list_insert PySem.F.type_list_insert mt_insert (pv 2) (pa_cons pe_we (pa_cons pe_we pa_nil))) ?_)
      refine ⟨.ref fo, rfl, .inl ⟨rfl, _, SqL.of hf3⟩, ?_⟩
      refine we_call2 cD hr (we_v 0 rfl (Ev.borrow g3.s nf3 hf3 (Ev.add (Ev.lenL (l := l') B (Ev.v 2 rfl ⟨fo, acc, rfl, upd_same, pmono pr3 fun _ _ => rup (same_new nf3)⟩)) Ev.int) fun G4 H4 u4 g4 n4 r4 => ?_))
      cases r4
      refine ⟨G4, q, _, _, rfl, g4.s, (p2.gr g3).gr g4, by omega, by omega, by omega, fun G5 H5 x g5 p5 hx0 hx1 => ?_⟩
      refine we_v 3 rfl ?_
      have hf5 : H5 fo = some (.lst acc) := g5.h fo _ (fun e => qfo e.symm) (g4.hh _ _ hf3)
      have nf5 := g5.f fo n4 (by rw [g4.hh _ _ hf3]; exact fun z => nomatch z)
      refine ⟨fo, acc, x, lw, rfl, rfl, hf5, by rw [ha]; exact Nat.lt_trans (Nat.lt_trans hi hl) (by decide), hx0, by omega, ?_⟩
      have gB : GrM (Mq q) G H G5 H5 := (gA.trans (g3.trans g4).any).trans g5
      refine ws_nil ⟨G5, (g4.g.trans g5.g), (gB.off hfo0 nf5).s, _, some lw, l'.take x.toNat ++ [c] ++ l'.drop x.toNat, rfl, gB.off hfo0 nf5, (p5.off qfo).le (by omega), nf5, upd_same, ?_, ?_⟩
      · have s35 := g4.g.trans g5.g
        have pr5 : Paired (rp G5) acc l' := pmono pr3 fun _ _ => rup s35
        refine r2_cat.PairedAppend (r2_cat.PairedAppend ?_ (.cons (rup s35 rl) .nil)) ?_
        · have := cutV_pair pr5 0 x.toNat
          simpa using this
        · have := cutV_pair pr5 x.toNat (acc.length)
          have e1 : (acc.drop x.toNat).take acc.length = acc.drop x.toNat := List.take_of_length_le (by rw [List.length_drop]; omega)
          have e2 : (l'.drop x.toNat).take acc.length = l'.drop x.toNat := List.take_of_length_le (by rw [List.length_drop]; omega)
          rwa [e1, e2] at this
      · rw [take_snoc hc]
        exact perm_insert _ pm
    · rintro σ1 G2 H2 s12 s22 ⟨acc, it, l', rfl, gA, p2, nf, hf, pr, pm⟩
      rw [List.take_length] at pm
      refine ws_retW (we_v 2 rfl ?_)
      exact kk (upd G2 fo (.lst acc)) H2 _ l' (gA.promote hfo0 nf hf) (p2.up qfo) pm ⟨fo, acc, rfl, upd_same, pmono pr fun _ _ => rup (same_new nf)⟩
end
end T91

namespace T91
open PySem L2 D1 Rp
/-! ### words -/
open SX
abbrev W8 : List Str := ["call", "off", "in", "by", "a", "none", "marrows", "zz"]
theorem w8_names : ∀ z ∈ W8, isName z = true := by decide +kernel
theorem w8_nodup : W8.Nodup := by decide +kernel
/-- the letters that make a word -/
def isPart (z : Str) (n : Nat) : Prop := z.length = n ∧ ∀ c ∈ tl z, c ∈ LT.cps.toList
theorem cutL_take {α : Type} [Rp α] {l : List α} {n : Nat} : cutL l none (some (n : Int)) = l.take n := cutL_to
section
variable {P : Program} {w : World} {K : PySem.W.Frag} {mg : Str → Option Value} {base : Heap} {f C : Addr} {fd : FuncData}
theorem c_word (D : C8.Def K mg "_law_word" sLawWord f fd) (b : Binds K fd ["purse"] []) (B : Bt mg) (cD : C8.Cal P w K mg base 2 "_law_draw" PDraw []) : C8.Cal P w K mg base 3 "_law_word" PWord [] := by
  refine C8.cal0 D b .nil scLawWord (fun vs H Q E h => ?_) fun cdv A outer s H vs Q E hr h => ?_
  · obtain ⟨G, q, b', rfl, _⟩ := h
    rfl
  · obtain ⟨G, q, b', rfl, sG, pq, hb, kk⟩ := h
    refine ⟨_, pss_ws, ?_⟩
    refine ws_asg 1 (Same.refl G) sG Ev.str (fun G1 H1 v1 g1 r1 => ?_) scLawWord.nd
    cases r1
    have pq1 := pq.gr g1
    refine ws_forR 2 (G1 := G) (fun n i σ' G' H' => ∃ tn, ∃ z : Str, σ' = [some (.ref q), some (.str z), tn] ∧ 1 ≤ n ∧ n ≤ 8 ∧ GrM (Mq q) G H G' H' ∧ Purse q (b' + 1 + (i : Nat)) G' H' ∧ isPart z i) B.range
      (we_op op_add (Ev.ap g1.s Ev.int fun G2 H2 v2 g2 r2 => ?_)) ?_ ?_ scLawWord.nd
    · cases r2
      refine we_call2 cD hr (we_v 0 rfl (Ev.ap g2.s (Ev.int (i := 8)) fun G3 H3 v3 g3 r3 => ?_))
      cases r3
      refine ⟨G3, q, 8, b', rfl, g3.s, (pq1.gr g2).gr g3, by decide, by decide, by omega, fun G4 H4 r g4 p4 r0 r8 => ?_⟩
      refine ⟨1, r, rfl, rfl, (1 + r).toNat, ?_, by omega, G4, ((g1.trans g2).trans g3).g.trans g4.g, g4.s, none, "", rfl, by omega, by omega, ((g1.trans g2).trans g3).any.trans g4, p4.le (by omega), by decide +kernel, by decide +kernel⟩
      rw [Int.toNat_of_nonneg (by omega)]
    · rintro n i σ1 G2 H2 hi s12 s22 ⟨tn, z, rfl, hn1, hn8, gA, p2, hz⟩
      refine ws_asgW 1 (we_op op_add_str (we_v 1 rfl (we_ixS (we_call2 cD hr (we_v 0 rfl (Ev.ap s22 (Ev.int (i := 26)) fun G3 H3 v3 g3 r3 => ?_)))))) scLawWord.nd
      cases r3
      refine ⟨G3, q, 26, _, rfl, g3.s, p2.gr g3, by decide, by decide, by omega, fun G4 H4 r g4 p4 r0 r26 => ?_⟩
      have hlt : r.toNat < LT.cps.toList.length := by
        have : LT.cps.toList.length = 26 := by decide +kernel
        omega
      have hc : atI LT.cps.toList ((r.toNat : Nat) : Int) = some LT.cps.toList[r.toNat] := atI_nat (List.getElem?_eq_getElem hlt)
      refine ⟨r.toNat, LT.cps.toList[r.toNat], by rw [Int.toNat_of_nonneg r0], by decide +kernel, hc, z, _, rfl, rfl, ?_, ?_⟩
      · have e1 : (Str.mk #[LT.cps.toList[r.toNat]]).length = 1 := rfl
        have e2 := hz.1
        have e3 : sizeLine = 16777216 := rfl
        omega
      · refine ws_nil ⟨G4, g3.g.trans g4.g, g4.s, _, z ++ ⟨#[LT.cps.toList[r.toNat]]⟩, rfl, hn1, hn8, (gA.trans g3.any).trans g4, p4.le (by omega), ?_, ?_⟩
        · rw [len_cat, hz.1]; rfl
        · intro c hc
          have h1 : z = S (tl z) := (S_tl _).symm
          have h2 : z ++ (⟨#[LT.cps.toList[r.toNat]]⟩ : Str) = S (tl z ++ [LT.cps.toList[r.toNat]]) := by
            conv => lhs; rw [h1]
            exact S_cat _ _
          rw [h2] at hc
          have hc : c ∈ tl z ++ [LT.cps.toList[r.toNat]] := hc
          rcases List.mem_append.mp hc with hc | hc
          · exact hz.2 c hc
          · rw [List.mem_singleton] at hc
            rw [hc]
            exact List.getElem_mem hlt
    · rintro n σ1 G2 H2 s12 s22 ⟨tn, z, rfl, hn1, hn8, gA, p2, hz⟩
      refine ws_retW (we_v 1 rfl (kk G2 H2 z gA (p2.le (by omega)) ?_))
      exact decide_eq_true ⟨by rw [hz.1]; exact hn1, by rw [hz.1]; exact hn8, hz.2⟩
theorem c_words (D : C8.Def K mg "_law_words" sLawWords f fd) (b : Binds K fd ["purse", "many"] []) (B : Bt mg) (cW : C8.Cal P w K mg base 3 "_law_word" PWord []) (cS : C8.Cal P w K mg base 3 "_law_shuffled" (PShuf Str) []) : C8.Cal P w K mg base 4 "_law_words" PWords [] := by
  refine C8.cal0 D b .nil scLawWords (fun vs H Q E h => ?_) fun cdv A outer s H vs Q E hr h => ?_
  · obtain ⟨G, q, n, b', rfl, _⟩ := h
    rfl
  · obtain ⟨G, q, n, b', rfl, sG, pq, hn, hb, kk⟩ := h
    refine ⟨_, pss_ws, ?_⟩
    refine WS.cons (ps_asg pe_we (pg_two (i := 2) (j := 3) rfl scLawWords.nd rfl rfl (by first | exact Or.inl rfl | exact Or.inr rfl) (by first | exact Or.inl rfl | exact Or.inr rfl) (by first | exact .inl rfl | exact .inr rfl) (by first | exact .inl rfl | exact .inr rfl))) ?_
    refine WE.of (pe_tup (pa_cons pe_we (pa_cons pe_we pa_nil))) ?_
    refine Ev.ap (a := W8) sG (Ev.lst (EL.cons Ev.str (EL.cons Ev.str (EL.cons Ev.str (EL.cons Ev.str (EL.cons Ev.str (EL.cons Ev.str (EL.cons Ev.str (EL.cons Ev.str EL.nil)))))))) (show 8 ≤ 1000 by decide)) fun G1 H1 v1 g1 r1 => ?_
    refine we_call1 cW hr (we_v 0 rfl ⟨G1, q, b', rfl, g1.s, pq.gr g1, by omega, fun G2' H2' z g2' p2' hz => ?_⟩)
    refine ⟨small_sz (n := 2), fun tp htp => ?_⟩
    have gt := Gr.new (o := .tup [v1, .str z]) g2'.s htp
    have g2 : GrM (Mq q) G1 H1 _ _ := g2'.trans gt.any
    have p2 := p2'.gr gt
    refine g_two (x := W8) (y := z) gt.s ⟨tp, _, _, rfl, upd_same, rup g2.g r1, rfl⟩ fun u w ru rw => ?_
    cases rw
    have r2 := ru
    have rz : ∀ G : Hp, rp G (.str z) z := fun _ => rfl
    have zok : Da.lay z := (isName_zok hz).2
    have wok : Da.lay W8 := fun a ha => (isName_zok (w8_names a ha)).2
    have hfr : ∀ y ∈ ([z] : List Str).filter (fun y => !decide (y ∈ W8)), y = z ∧ ¬ z ∈ W8 := fun y hy => by
      have h1 := List.mem_filter.mp hy
      have h2 : y = z := List.mem_singleton.mp h1.1
      subst h2
      exact ⟨rfl, by simpa using h1.2⟩
    have hnames : ∀ y ∈ W8 ++ ([z] : List Str).filter (fun y => !decide (y ∈ W8)), isName y = true := fun y hy => by
      rcases List.mem_append.mp hy with hy | hy
      · exact w8_names y hy
      · rw [(hfr y hy).1]; exact hz
    have hnd : (W8 ++ ([z] : List Str).filter (fun y => !decide (y ∈ W8))).Nodup := by
      refine List.nodup_append.mpr ⟨w8_nodup, (List.filter_sublist).nodup (by simp), fun x hx y hy e => ?_⟩
      subst e
      have := hfr x hy
      rw [this.1] at hx
      exact this.2 hx
    have hlen : (W8 ++ ([z] : List Str).filter (fun y => !decide (y ∈ W8))).length ≤ 9 := by
      have h1 := List.length_filter_le (fun y => !decide (y ∈ W8)) [z]
      rw [List.length_append]
      have h2 : W8.length = 8 := rfl
      have h3 : ([z] : List Str).length = 1 := rfl
      omega
    have hlen8 : 8 ≤ (W8 ++ ([z] : List Str).filter (fun y => !decide (y ∈ W8))).length := by
      rw [List.length_append]
      have h2 : W8.length = 8 := rfl
      omega
    refine ws_retW (we_sortedS B (we_slTo (α := Str) (i := (n : Int)) (we_call2 cS hr (we_v 0 rfl (Ev.ap (a := W8 ++ ([z] : List Str).filter (fun y => !decide (y ∈ W8))) g2.s (Ev.cat (Ev.v 2 rfl r2) (Ev.lcSel 4 (t := fun y => !decide (y ∈ W8)) (EI.list (Ev.lst (EL.cons (Ev.v 3 rfl (rz _)) EL.nil) (show 1 ≤ 1000 by decide)))
      (fun d hd G' v' s1 r' s H C cl fp => ET.niD hr.units65 (Ev.v 4 rfl r') (Ev.v 2 rfl (rup s1 r2)) (by rw [List.mem_singleton.mp hd]; exact zok) wok) (show 1 < sizeLine by decide) scLawWords.nd (blkOk_by (N := nLawWords) (sc := C8.fnScope sLawWords) (by decide +kernel))) (by rw [List.length_append] at hlen; have e3 : sizeLine = 16777216 := rfl; omega)) fun G3 H3 v3 g3 r3 => ?_)))))
    refine ⟨G3, q, v3, _, _, rfl, g3.s, p2.gr g3, r3, by omega, by omega, fun G4 H4 w4 l4 g4 p4 pm r4 => ?_⟩
    refine ⟨G4, l4, g4.s, r4, Ev.v 1 rfl rfl, fun G5 H5 w5 g5 r5 => ?_⟩
    rw [cutL_take] at r5
    have hl4 := pm.length_eq
    refine ⟨G5, _, g5.s, r5, by rw [List.length_take]; omega, fun p hp => ?_⟩
    have gA : GrM (Mq q) G H G5 H5 := (((g1.any.trans g2).trans g3.any).trans g4).trans g5.any
    have gn := Gr.new (o := .lst ((sortS (l4.take n)).map V.str)) g5.s hp
    refine kk _ _ _ (sortS (l4.take n)) (gA.trans gn.any) (((p4.gr g5).gr gn).le (by omega)) (by rw [sortS_length, List.length_take]; omega) (sortS_sorted _) (sortS_nodup ((List.take_sublist n l4).nodup (pm.nodup_iff.mpr hnd))) (fun y hy => hnames y (pm.mem_iff.mp (List.mem_of_mem_take (mem_sortS.mp hy)))) ⟨p, _, rfl, upd_same, strs_to _⟩
end
end T91

namespace T91
open PySem L2 D1 Rp
/-! ### rounds -/
open SX
abbrev Rd := List Str × List Str
def isRound (t : Rd) : Bool := isAscending t.1 && (isAscending t.2 && (!decide (t.2 = []) && decide (∀ x ∈ t.2, x ∈ t.1)))
def RdOk (t : Rd) : Prop := Lok t.1 ∧ Lok t.2
def RdGood (t : Rd) : Prop := isRound t = true ∧ t.1.length < 64 ∧ t.2.length < 64
theorem RdGood.parts {t : Rd} (h : RdGood t) : Nok t.1 ∧ Nok t.2 ∧ t.2 ≠ [] := by
  obtain ⟨h1, h2, h3⟩ := h
  unfold isRound isAscending at h1
  simp only [Bool.and_eq_true, decide_eq_true_eq, Bool.not_eq_true', decide_eq_false_iff_not] at h1
  exact ⟨⟨h1.1.1, h2⟩, ⟨h1.2.1.1, h3⟩, h1.2.2.1⟩
theorem RdGood.ok {t : Rd} (h : RdGood t) : RdOk t := ⟨h.parts.1.lok, h.parts.2.1.lok⟩
theorem RdOk.lay {t : Rd} (h : RdOk t) : Da.lay t := ⟨h.1.lay, h.2.lay⟩
theorem colon : (": " : Str) = S [58, 32] := by decide +kernel
def roundText (t : Rd) : Str := lineOfNames t.1 ++ ": " ++ lineOfNames t.2
theorem rt_at (t : Rd) : roundText t = S (tl (lineOfNames t.1) ++ ([58, 32] ++ tl (lineOfNames t.2))) := by
  unfold roundText
  have h1 : lineOfNames t.1 = S (tl (lineOfNames t.1)) := (S_tl _).symm
  have h2 : lineOfNames t.2 = S (tl (lineOfNames t.2)) := (S_tl _).symm
  conv => lhs; rw [h1, h2, colon, S_cat, S_cat]
  rw [List.append_assoc]
theorem rt_par {t : Rd} (h : RdGood t) : Txt.partition (roundText t) ": " = (lineOfNames t.1, (": " : Str), lineOfNames t.2) := by
  rw [rt_at, colon, partition_some (p := tl (lineOfNames t.1)) (q := tl (lineOfNames t.2)) (by decide) (par_head _ fun hc => by have := lon_signs h.parts.1.name 58 hc; omega), S_tl, S_tl]
theorem rt_signs {t : Rd} (h : RdGood t) : ∀ c ∈ tl (roundText t), c = 45 ∨ c = 44 ∨ c = 32 ∨ c = 58 ∨ (97 ≤ c ∧ c ≤ 122) := by
  intro c hc
  rw [rt_at] at hc
  have hc : c ∈ tl (lineOfNames t.1) ++ ([58, 32] ++ tl (lineOfNames t.2)) := hc
  rw [List.mem_append, List.mem_append] at hc
  rcases hc with hc | hc | hc
  · have := lon_signs h.parts.1.name c hc; omega
  · simp at hc; omega
  · have := lon_signs h.parts.2.1.name c hc; omega
theorem rt_len {t : Rd} (h : RdGood t) : (roundText t).length ≤ 1284 := by
  have a1 := lon_len h.parts.1
  have a2 := lon_len h.parts.2.1
  rw [rt_at, S_len]
  have b1 : (tl (lineOfNames t.1)).length = (lineOfNames t.1).length := by simp [tl, Str.length]
  have b2 : (tl (lineOfNames t.2)).length = (lineOfNames t.2).length := by simp [tl, Str.length]
  simp only [List.length_append, List.length_cons, List.length_nil]
  omega
theorem semi_split2 {l : List Str} (hn : l ≠ []) (h : ∀ z ∈ l, ∀ c ∈ tl z, ¬ c = 59) : Txt.split (Txt.join "; " l) "; " = l := by
  rw [semi, join_at, split_S (by decide) (by decide), spl_join (by simpa using hn) fun p hp hc => by
    obtain ⟨z, hz, rfl⟩ := List.mem_map.mp hp
    exact h z hz 59 hc rfl]
  rw [List.map_map]
  exact (List.map_congr_left fun z _ => S_tl z).trans (List.map_id' l)
def roundsText (l : List Rd) : Str := if l = [] then "-" else Txt.join "; " (l.map roundText)
def RsGood (l : List Rd) : Prop := (∀ t ∈ l, RdGood t) ∧ l.length < 64
theorem rs_split {l : List Rd} (h : RsGood l) (hn : l ≠ []) : Txt.split (roundsText l) "; " = l.map roundText := by
  unfold roundsText
  rw [if_neg hn]
  refine semi_split2 (by simpa using hn) fun z hz c hc => ?_
  obtain ⟨t, ht, rfl⟩ := List.mem_map.mp hz
  have := rt_signs (h.1 t ht) c hc
  omega
theorem rs_ne {l : List Rd} (h : RsGood l) (hn : l ≠ []) : ¬ roundsText l = "-" := fun e => by
  have h1 := rs_split h hn
  rw [e] at h1
  have h2 : Txt.split "-" "; " = (["-"] : List Str) := by decide +kernel
  rw [h2] at h1
  have h3 : ("-" : Str) ∈ l.map roundText := by rw [← h1]; exact List.mem_cons_self
  obtain ⟨t, _, e2⟩ := List.mem_map.mp h3
  rw [rt_at, dash] at e2
  have e3 := S_inj e2
  have h4 : (58 : Nat) ∈ ([45] : List Nat) := by rw [← e3]; simp
  simp at h4
theorem rs_len {l : List Rd} (h : RsGood l) : (roundsText l).length ≤ 90000 := by
  unfold roundsText
  split
  · rw [dash]; decide
  · have := semi_len (l := l.map roundText) (b := 1284) fun z hz => by
      obtain ⟨t, ht, rfl⟩ := List.mem_map.mp hz
      exact rt_len (h.1 t ht)
    rw [List.length_map] at this
    have h2 := h.2
    omega
theorem rs_ok {l : List Rd} (h : RsGood l) : PyData.strOk (roundsText l) = true := strOk_low fun c hc => by
  unfold roundsText at hc
  split at hc
  · rw [dash] at hc
    have : c = 45 := by simpa [S, tl] using hc
    omega
  · rw [semi, join_at] at hc
    rcases mem_joinL hc with h1 | ⟨p, h1, h2⟩
    · simp at h1; omega
    · obtain ⟨z, hz, rfl⟩ := List.mem_map.mp h1
      obtain ⟨t, ht, rfl⟩ := List.mem_map.mp hz
      have := rt_signs (h.1 t ht) c h2
      omega
def roundOf (t : Str) : Option Rd :=
  some ((namesOf (Txt.partition t ": ").1).getD [], (namesOf (Txt.partition t ": ").2.2).getD [])
theorem round_back {t : Rd} (h : RdGood t) : roundOf (roundText t) = some t := by
  unfold roundOf
  rw [rt_par h]
  simp only [namesOf_lon h.parts.1.name, namesOf_lon h.parts.2.1.name]
  rfl
def roundsOf (t : Str) : Option (List Rd) := some (if t = "-" then [] else (Txt.split t "; ").map fun z => (roundOf z).getD ([], []))
theorem rounds_back {l : List Rd} (h : RsGood l) : roundsOf (roundsText l) = some l := by
  unfold roundsOf
  by_cases hn : l = []
  · subst hn
    have e : roundsText [] = "-" := if_pos rfl
    rw [e, if_pos rfl]
  · rw [if_neg (rs_ne h hn), rs_split h hn, getD_rows (fun r => r) fun t ht => round_back (h.1 t ht), List.map_id']
/-- y = [elt for a, b in iter], in a def's body -/
theorem bl_asgMap2 {α β δ : Type} [Rp α] [Rp β] [Rp δ] {X : Cx} {σ : St} {G : Hp} {N : St → Hp → Prop} {R : V → Hp → Prop} {rest : List Stmt} {pos px : Pos} (i j1 j2 : Nat) {x1 x2 y : Str} {py1 pt : Pos} {kt} {py spos : Pos} {elt iter : Expr} {scope : Scope} {l : List (α × β)} {f : α × β → δ} (hi : EI X (.Tuple [.Name x1 px, .Name x2 py1] kt pt) iter σ G l)
    (he : ∀ d ∈ l, ∀ G' u w, Same G G' → rp G' u d.1 → rp G' w d.2 → ∀ s H C cl fp, Ev (BK X s H scope C cl fp) elt (((wipe σ [j1, j2]).set j1 (some u)).set j2 (some w)) G' (f d))
    (hz : l.length < sizeLine) (hN : X.N.Nodup) (ok : BlkOk X.N X.env.scope scope [(x1, j1), (x2, j2)]) (k : ∀ G' v, Same G G' → rp G' v (l.map f) → Bl X rest (σ.set i (some v)) G' N R)
    (hg : ∀ (s : Shared) (H : Hp) (C : Addr) (cl : List (Str × Addr)) (fp : List Addr), PG (BK X s H scope C cl fp) (.Tuple [.Name x1 px, .Name x2 py1] kt pt) (gTup X.K 2 (gCons (gName j1) (gCons (gName j2) gNil))))
    (hsw : swapsWith (.ListComp elt [⟨.Tuple [.Name x1 px, .Name x2 py1] kt pt, iter, [], 0⟩] scope pos) (some (.Name y py)) spos.line X.env = pure true := by rfl) (hij : j1 ≠ j2 := by decide) (hc : X.calm = true := by rfl) (hy : X.N[i]? = some y := by rfl) (hyl : X.env.scope.names.lookup y = some .local := by rfl) (hs : ∀ x, foldedSetIterable iter X.env x = pure x := by intro _; rfl) :
    Bl X (.Assign [.Name y py] (.ListComp elt [⟨.Tuple [.Name x1 px, .Name x2 py1] kt pt, iter, [], 0⟩] scope pos) spos :: rest) σ G N R :=
  Bl.asgLc i (own := [(x1, j1), (x2, j2)]) (f := f) (t := fun _ => true) hi (tgB2 (K := X.K)) hg (fun d hd G' σ' s1 _ s H C cl fp => ETs.nil) (fun d hd td G' σ' s1 ⟨u, w, r1, r2, e⟩ s H C cl fp => e ▸ he d hd G' u w s1 r1 r2 s H C cl fp) (fun _ _ _ b => wipe_b2 hij b) hz hN ok
    (fun G' v s1 r => k G' v s1 (by rwa [filter_yes] at r)) hsw hc hy hyl hs
section
variable {P : Program} {w : World} {K : PySem.W.Frag} {mg : Str → Option Value} {base : Heap} {f C : Addr} {fd : FuncData}
theorem c_is_some_round (D : C8.Def K mg "is_some_round" sIsSomeRound f fd) (b : Binds K fd ["value"] []) (B : Bt mg) (cA : C8.Cal P w K mg base 3 "is_ascending" (P1 Lok isAscending) []) :
    C8.Cal P w K mg base 4 "is_some_round" (P1 RdOk isRound) [] := by
  refine fn1 D b scIsSomeRound rfl fun cdv A outer s H E G v t hr r h => ?_
  obtain ⟨t1, t2⟩ := t
  refine Bl.ifF (ET.eq (EW.t (EW.or (ET.not (ET.val (Ev.isiT2 B (Ev.v 0 rfl r)))) fun _ => EW.or1 (ET.neD hr.units (Ev.len2 B (Ev.v 0 rfl r)) Ev.int trivial trivial))) (by decide)) ?_
  refine Bl.asg2 1 2 (d := t1) (d2 := t2) (Ev.v 0 rfl r) (fun G' x y s1 q1 q2 => ?_) scIsSomeRound.nd
  refine Bl.ite (EW.t (EW.or (ET.not (ET.val (Ev.call1 cA hr (Ev.v 1 rfl q1) h.1))) fun _ => EW.or (ET.not (ET.val (Ev.call1 cA hr (Ev.v 2 rfl q2) h.2))) fun _ => EW.or1 (ET.eqD hr.units (Ev.v 2 rfl q2) Ev.nil h.2.lay lay_nil)))
    (fun hh => Bl.rv (Ev.bl.eq ?_)) fun hh => Bl.rv (Ev.eq (Ev.eqD hr.units (Ev.lcSel 3 (t := fun z => !decide (z ∈ t1)) (EI.list (Ev.v 2 rfl q2)) (fun d hd G' v' s1 r' s H C cl fp => ET.niD hr.units65 (Ev.v 3 rfl r') (Ev.v 1 rfl (rup s1 q1)) (h.2.1 d hd).2 h.1.lay) (sz64 h.2.2) scIsSomeRound.nd (blkOk_by (N := nIsSomeRound) (sc := C8.fnScope sIsSomeRound) (by decide +kernel))) Ev.nil
    (fun a ha => h.2.lay a (List.mem_filter.mp ha).1) lay_nil) ?_)
  · unfold isRound
    revert hh
    cases isAscending t1 <;> cases isAscending t2 <;> cases decide (t2 = []) <;> simp
  · have e : decide (t2.filter (fun z => !decide (z ∈ t1)) = []) = decide (∀ x ∈ t2, x ∈ t1) := by
      rw [Bool.eq_iff_iff, decide_eq_true_eq, decide_eq_true_eq, filter_nil_iff]
      exact ⟨fun hh x hx => by simpa using hh x hx, fun hh x hx => by simpa using hh x hx⟩
    rw [e]
    unfold isRound
    revert hh
    show (!isAscending t1 || (!isAscending t2 || decide (t2 = []))) = false → _
    cases isAscending t1 <;> cases isAscending t2 <;> cases decide (t2 = []) <;> simp
theorem c_names_text (D : C8.Def K mg "names_text" sNamesText f fd) (b : Binds K fd ["names"] []) (B : Bt mg) (cN : C8.Cal P w K mg base 1 "is_name" (P1 Zok isName) []) (cL : C8.Cal P w K mg base 1 "line_of_names" (P1 Nm lineOfNames) []) :
    C8.Cal P w K mg base 2 "names_text" (P1 Nm lineOfNames) [] := by
  refine fn1 D b scNamesText rfl fun cdv A outer s H E G v l hr r h => ?_
  have e : l.filter (fun z => !isName z) = [] := filter_nil_iff.mpr fun z hz => by rw [h.1 z hz]; rfl
  exact Bl.ifF (ET.eq (EW.t (EW.or (ET.not (ET.val (Ev.isiList B (Ev.v 0 rfl r)))) fun _ => EW.or1 (ET.neD hr.units (Ev.lcSel 1 (t := fun z => !isName z) (EI.list (Ev.v 0 rfl r)) (fun d hd G' v' s1 r' s H C cl fp => ET.not (ET.val (Ev.call1 cN hr (Ev.v 1 rfl r') (h.lok.1 d hd)))) (sz64 h.2) scNamesText.nd (blkOk_by (N := nNamesText) (sc := C8.fnScope sNamesText) (by decide +kernel))) Ev.nil
    (fun a ha => h.lok.lay a (List.mem_filter.mp ha).1) lay_nil))) (by rw [e]; rfl)) (Bl.rv (Ev.call1 cL hr (Ev.v 0 rfl r) h))
theorem c_rounds_text (D : C8.Def K mg "rounds_text" sRoundsText f fd) (b : Binds K fd ["rounds"] []) (B : Bt mg) (cR : C8.Cal P w K mg base 4 "is_some_round" (P1 RdOk isRound) []) (cL : C8.Cal P w K mg base 1 "line_of_names" (P1 Nm lineOfNames) []) :
    C8.Cal P w K mg base 5 "rounds_text" (P1 RsGood roundsText) [] := by
  refine fn1 D b scRoundsText rfl fun cdv A outer s H E G v l hr r h => ?_
  have e : l.filter (fun z => !isRound z) = [] := filter_nil_iff.mpr fun z hz => by rw [(h.1 z hz).1]; rfl
  have a6 : sizeLine = 16777216 := rfl
  refine Bl.ifF (ET.eq (EW.t (EW.or (ET.not (ET.val (Ev.isiList B (Ev.v 0 rfl r)))) fun _ => EW.or1 (ET.neD hr.units (Ev.lcSel 1 (t := fun z => !isRound z) (EI.list (Ev.v 0 rfl r)) (fun d hd G' v' s1 r' s H C cl fp => ET.not (ET.val (Ev.call1 cR hr (Ev.v 1 rfl r') (h.1 d hd).ok))) (sz64 h.2) scRoundsText.nd (blkOk_by (N := nRoundsText) (sc := C8.fnScope sRoundsText) (by decide +kernel))) Ev.nil
    (fun a ha => (h.1 a (List.mem_filter.mp ha).1).ok.lay) lay_nil))) (by rw [e]; rfl)) ?_
  refine bl_asgMap2 2 3 4 (f := roundText) (EI.list (Ev.v 0 rfl r)) (fun d hd G' u w' s1 r1 r2 s H C cl fp => ?_) (sz64 h.2) scRoundsText.nd (blkOk_by (N := nRoundsText) (sc := C8.fnScope sRoundsText) (by decide +kernel)) (fun G1 v1 s1 r1 => ?_)
    (fun s H C cl fp => pg_two rfl scRoundsText.nd rfl rfl (by first | exact Or.inl rfl | exact Or.inr rfl) (by first | exact Or.inl rfl | exact Or.inr rfl) (by first | exact .inr rfl | exact .inl rfl) (by first | exact .inr rfl | exact .inl rfl))
  · have hg := h.1 d hd
    have b1 := lon_len hg.parts.1
    have b2 := lon_len hg.parts.2.1
    have b3 : (": " : Str).length = 2 := by decide +kernel
    have b4 := len_cat (lineOfNames d.1) ": "
    exact Ev.addS (Ev.addS (Ev.call1 cL hr (Ev.v 3 rfl r1) hg.parts.1.nm) Ev.str (by omega)) (Ev.call1 cL hr (Ev.v 4 rfl r2) hg.parts.2.1.nm) (by omega)
  · have ly : Da.lay (l.map roundText) := fun z hz => by
      obtain ⟨t, ht, rfl⟩ := List.mem_map.mp hz
      exact strOk_low fun c hc => by have := rt_signs (h.1 t ht) c hc; omega
    refine Bl.rv (Ev.eq (Ev.ite (ET.eqD hr.units (Ev.v 2 rfl r1) Ev.nil ly lay_nil) (fun _ => Ev.str) fun _ => Ev.join Ev.str (Ev.v 2 rfl r1) ?_) ?_)
    · have h2 := sum_le (fun z : Str => z.length) 1284 (l.map roundText) fun z hz => by
        obtain ⟨t, ht, rfl⟩ := List.mem_map.mp hz
        exact rt_len (h.1 t ht)
      have h3 : ((l.map roundText).map (fun z : Str => z.length)).sum ≤ (l.map roundText).length * 1284 := h2
      have h4 := h.2
      have h5 : ("; " : Str).length = 2 := by decide +kernel
      rw [List.length_map] at h3
      rw [h5, List.length_map]
      omega
    · unfold roundsText
      by_cases e : l = []
      · subst e; rfl
      · rw [if_neg e, decide_eq_false (by simpa using e)]; rfl
theorem c_round_ofF (D : C8.Def K mg "round_of" sRoundOf f fd) (b : Binds K fd ["text"] []) (cN : C8.Cal P w K mg base 2 "names_of" (P1F (fun t => ∃ ns, Nm ns ∧ t = lineOfNames ns) namesOf) []) (cR : C8.Cal P w K mg base 4 "is_some_round" (P1 RdOk isRound) []) :
    C8.Cal P w K mg base 5 "round_of" (P1F (fun t => ∃ l, RdGood l ∧ t = roundText l) roundOf) [] := by
  refine fn1F D b scRoundOf rfl fun cdv A outer s H E G v t Q hr sG r h kk => ?_
  obtain ⟨l, hl, rfl⟩ := h
  have hlen := rt_len hl
  have a6 : sizeLine = 16777216 := rfl
  have hp := hl.parts
  rw [round_back hl] at kk
  obtain ⟨l1, l2⟩ := l
  refine ws_asg3 1 2 3 (Same.refl G) sG (Ev.eq (Ev.partition (Ev.v 0 rfl r) Ev.str (by decide +kernel) (by omega)) (show _ = T3.mk (lineOfNames l1) (": " : Str) (lineOfNames l2) by rw [rt_par hl])) (fun G1 H1 x y z g1 q1 q2 q3 => ?_) scRoundOf.nd
  refine ws_asgW 4 (EvF.ap (d := ((l1, l2) : Rd)) g1.s (EvF.tup2 (EvF.unopt (EvF.eq (EvF.call1 cN hr (Ev.v 1 rfl q1) ⟨l1, hp.1.nm, rfl⟩) (namesOf_lon hp.1.name))) (EvF.unopt (EvF.eq (EvF.call1 cN hr (Ev.v 3 rfl q3) ⟨l2, hp.2.1.nm, rfl⟩) (namesOf_lon hp.2.1.name)))) fun G2 H2 fw g2 r2 => ?_) scRoundOf.nd
  have r2' := rup dif_same r2
  have r2o : rp G2 fw ((some l1, some l2) : Option (List Str) × Option (List Str)) := r2'
  refine ws_retW (we_ifT g2.s (ET.eq (EW.t (EW.and (ET.neD hr.units (Ev.v 2 rfl (rup g2.g q2)) Ev.str (show PyData.strOk (": " : Str) = true by decide +kernel) (show PyData.strOk ("" : Str) = true by decide +kernel)) fun _ => EW.and (ET.niP hr.units65 Ev.nonO (Ev.v 4 rfl r2o) lay_none (lay_some hp.1.lok.lay) (lay_some hp.2.1.lok.lay)) fun _ => EW.and1 (ET.val (Ev.call1 cR hr (Ev.v 4 rfl r2') hl.ok)))) (by
    rw [show isRound (l1, l2) = true from hl.1]
    have e1 : decide ((": " : Str) = "") = false := by decide +kernel
    rw [e1, dno (by simp)]
    rfl)) fun G5 H5 g5 => we_v 4 rfl ?_)
  exact kk G5 H5 fw ((g1.trans g2).trans g5) (rup (dif_up g5.g) (rup g1.difs r2))
theorem c_rounds_ofF (D : C8.Def K mg "rounds_of" sRoundsOf f fd) (b : Binds K fd ["text"] []) (cR : C8.Cal P w K mg base 5 "round_of" (P1F (fun t => ∃ l, RdGood l ∧ t = roundText l) roundOf) []) :
    C8.Cal P w K mg base 6 "rounds_of" (P1F (fun t => ∃ l, RsGood l ∧ t = roundsText l) roundsOf) [] := by
  refine fn1F D b scRoundsOf rfl fun cdv A outer s H E G v t Q hr sG r h kk => ?_
  obtain ⟨l, hl, rfl⟩ := h
  have hlen := rs_len hl
  have a6 : sizeLine = 16777216 := rfl
  rw [rounds_back hl] at kk
  have fin : ∀ G2 H2 fw, Gr G H G2 H2 → rp (dif G2 H) fw (l.map some : List (Option Rd)) → WE (BX P w K mg base nRoundsOf "rounds_of" sRoundsOf f cdv A outer s H E) (match C8.fnBody sRoundsOf with | [_, .Return (some e) _] => e | _ => .Constant .none 0 ⟨0, 0, 0, 0⟩) [some v, some fw, none] H2 Q := fun G2 H2 fw g2 r2 => by
    have r2' := rup dif_same r2
    refine we_ifF g2.s (ET.eq (ET.inD hr.units65 Ev.nonO (Ev.v 1 rfl r2') lay_none (lay_somes fun x hx => (hl.1 x hx).ok.lay)) (dno none_somes)) fun G3 H3 g3 => we_v 1 rfl ?_
    exact kk G3 H3 fw (g2.trans g3) (rp_some (rup (dif_up g3.g) r2))
  have hz := rs_ok hl
  have dk : PyData.strOk ("-" : Str) = true := by decide +kernel
  by_cases hn : l = []
  · subst hn
    refine ws_asgW 1 (we_ifT sG (ET.eq (ET.eqD hr.units (Ev.v 0 rfl r) Ev.str hz dk) (decide_eq_true (show roundsText [] = "-" from if_pos rfl))) fun G1 H1 g1 => EvF.ap (d := ([] : List (Option Rd))) g1.s EvF.nil fun G2 H2 fw g2 r2 => ?_) scRoundsOf.nd
    exact ws_retW (fin G2 H2 fw (g1.trans g2) (rup g1.difs r2))
  · refine ws_asgW 1 (we_ifF sG (ET.eq (ET.eqD hr.units (Ev.v 0 rfl r) Ev.str hz dk) (decide_eq_false (rs_ne hl hn))) fun G1 H1 g1 => ?_) scRoundsOf.nd
    refine we_lcI (own := [("piece", 2)]) (l := l.map roundText) (fun D i acc G' H' => Gr G H G' H' ∧ Paired (rp (dif G' H)) acc ((l.take i).map some)) (Same.refl G1) g1.s (EI.list (Ev.eq (Ev.split (Ev.v 0 rfl (rup g1.g r)) Ev.str semi2 (by omega)) (rs_split hl hn))) (tgB1 (i := 2)) (fun s H C cl fp => pg_name scRoundsOf.nd rfl (Or.inl rfl) (Or.inr rfl))
      (fun G2 H2 D g2 hD => ⟨(g1.trans g2).trans (Gr.newM g2.s hD), .nil⟩) ?_ ?_ (fun _ _ _ b => wipe_b1 b) (fun c G' G'' σ1 σ' s1 b => by obtain ⟨v, r, e⟩ := b; exact ⟨v, rup s1 r, e⟩) (by rw [List.length_map]; exact sz64 hl.2) scRoundsOf.nd (blkOk_by (N := nRoundsOf) (sc := C8.fnScope sRoundsOf) (by decide +kernel))
    · rintro D i c acc G2 H2 hc s12 s22 gD hacc hlen' hD1 ⟨gA, pr⟩ G3 H3 σ' g3 ⟨pv, rv, rfl⟩ s0 H0 C cl fp
      rw [List.getElem?_map] at hc
      cases hti : l[i]? with
      | none => rw [hti] at hc; cases hc
      | some t =>
        rw [hti] at hc
        cases hc
        have ht : t ∈ l := List.mem_of_getElem? hti
        have gD3 := g3.f D gD (by rw [hacc]; exact fun z => nomatch z)
        have hD3 := g3.hh _ _ hacc
        refine EvF.ap g3.s (EvF.eq (EvF.call1 cR hr (Ev.v 2 rfl rv) ⟨t, hl.1 t ht, rfl⟩) (round_back (hl.1 t ht))) fun G4 H4 u g4 r4 => ?_
        have gD4 := g4.f D gD3 (by rw [hD3]; exact fun z => nomatch z)
        have hD4 := g4.hh _ _ hD3
        have hD0 : H D = none := g1.fresh hD1
        have gB := (gA.trans g3).trans g4
        refine ⟨G4, g4.g, g4.s, gD4, hD4, gB.off hD0 gD4, ?_⟩
        rw [take_snoc hti, List.map_append]
        exact r2_cat.PairedAppend (pmono pr fun _ _ => rup (dif_up (g3.trans g4).g)) (.cons (rup (gA.trans g3).difs r4) .nil)
    · rintro D acc G2 H2 s12 s22 gD hacc hD1 ⟨gA, pr⟩
      rw [List.length_map, List.take_length] at pr
      have hD0 : H D = none := g1.fresh hD1
      refine ws_retW (fin (upd G2 D (.lst acc)) H2 (.ref D) (gA.promote hD0 gD hacc) ⟨D, acc, rfl, by rw [dif_none hD0]; exact upd_same, pmono pr fun _ _ => rup (dif_up (same_new gD))⟩)
theorem c_read_roundsF {f0 : Addr} (D : C8.Def K mg "read_rounds" sReadRounds f fd) (b : Binds K fd ["text"] []) (hm : mg "rounds_of" = some (.ref f0)) (c : C8.Cal P w K mg base 7 "read_by" (PBF f0 (fun t => ∃ l, RsGood l ∧ t = roundsText l) (fun t => ((roundsOf t).getD []))) []) :
    C8.Cal P w K mg base 8 "read_rounds" (P1F (fun t => ∃ l, RsGood l ∧ t = roundsText l) (fun t => ((roundsOf t).getD []))) [] := by
  refine fn1F D b scReadRounds rfl fun cdv A outer s H E G v t Q hr sG r h kk => ?_
  exact ws_retW (EvF.ap sG (evF_callF (f := fun t => ((roundsOf t).getD [])) (a := t) c hr hm (Ev.v 0 rfl r) h) fun G3 H3 u g3 r3 => kk G3 H3 u g3 r3)
end
end T91

namespace T91
open PySem L2 D1 Rp
/-! ### what the law draws -/
open SX
structure Nm8 (ns : List Str) : Prop where
  names : ∀ z ∈ ns, isName z = true
  nodup : ns.Nodup
  sorted : SortedS ns
  few : ns.length ≤ 8
  ne : ns ≠ []
theorem Nm8.nok {ns : List Str} (h : Nm8 ns) : Nok ns := ⟨decide_eq_true ⟨h.names, h.nodup⟩, Nat.lt_of_le_of_lt h.few (by decide)⟩
theorem Nm8.pos {ns : List Str} (h : Nm8 ns) : 1 ≤ ns.length := by
  have := h.ne
  cases ns with
  | nil => exact absurd rfl this
  | cons a l => exact Nat.succ_le_succ (Nat.zero_le _)
theorem sub_len {α : Type} [DecidableEq α] : ∀ {l m : List α}, l.Nodup → (∀ x ∈ l, x ∈ m) → l.length ≤ m.length
  | [], m, _, _ => Nat.zero_le _
  | a :: l, m, hn, hs => by
    have hn' := List.nodup_cons.mp hn
    have p := List.perm_cons_erase (hs a List.mem_cons_self)
    have := sub_len hn'.2 (m := m.erase a) fun x hx => by
      have hxm := hs x (List.mem_cons_of_mem _ hx)
      rcases List.mem_cons.mp (p.mem_iff.mp hxm) with e | h
      · subst e; exact absurd hx hn'.1
      · exact h
    have hl := p.length_eq
    simp only [List.length_cons] at hl ⊢
    omega
/-- some of the names, sorted -/
def Part (f ns : List Str) : Prop := (∀ z ∈ f, z ∈ ns) ∧ f.Nodup ∧ SortedS f ∧ f ≠ []
theorem Part.sub {f ns : List Str} (h : Part f ns) (hn : Nm8 ns) : Nm8 f := by
  refine ⟨fun z hz => hn.names z (h.1 z hz), h.2.1, h.2.2.1, ?_, h.2.2.2⟩
  exact Nat.le_trans (sub_len h.2.1 h.1) hn.few
theorem part_cut {l ns : List Str} {k : Nat} (pm : l.Perm ns) (hn : Nm8 ns) (hk : 1 ≤ k) : Part (sortS (l.take k)) ns := by
  refine ⟨fun z hz => pm.mem_iff.mp (List.mem_of_mem_take (mem_sortS.mp hz)), sortS_nodup ((List.take_sublist k l).nodup (pm.nodup_iff.mpr hn.nodup)), sortS_sorted _, fun e => ?_⟩
  have h1 := sortS_length (l.take k)
  rw [e, List.length_take, pm.length_eq] at h1
  have := hn.pos
  simp at h1
  omega
theorem mk_line {w : Str} {f ns : List Str} {n : Str} (hn : Nm8 ns) (hw : w = "call" ∨ w = "off") (hf : Part f ns) (hm : n ∈ ns) (hc : n ∈ f ↔ w = "call") : LnGood (⟨w, f, n⟩ : Ln) ∧ isLine (⟨w, f, n⟩ : Ln) ns = true := by
  have h8 := hf.sub hn
  have b1 : isAscending f = true := by
    unfold isAscending
    rw [Bool.and_eq_true]
    exact ⟨h8.nok.1, decide_eq_true (sortS_self hf.2.2.1).symm⟩
  have b2 : isField f ns = true := by
    unfold isField isLot
    rw [b1, decide_eq_true (hf.1 : ∀ x ∈ f, x ∈ ns), decide_eq_false hf.2.2.2]
    rfl
  have b3 := hn.names n hm
  refine ⟨⟨?_, h8.nok.2⟩, ?_⟩
  · unfold someLine
    rw [decide_eq_true hw, b1, decide_eq_false hf.2.2.2, b3]
    simp only [Bool.not_false, Bool.and_true, Bool.true_and, decide_eq_true_eq, decide_eq_decide]
    exact hc
  · unfold isLine
    rw [decide_eq_true hw, b2, b3, decide_eq_true hm]
    simp only [Bool.and_true, Bool.true_and, decide_eq_true_eq, decide_eq_decide]
    exact hc
def POne (α : Type) [Rp α] : Sp := fun vs H Q _ => ∃ G q v, ∃ l : List α, ∃ b : Int, vs = [.ref q, v] ∧ Same G H ∧ Purse q b G H ∧ rp G v l ∧ 1 ≤ l.length ∧ l.length < 1000 ∧ b < 2 ^ 38 ∧ ∀ G' H' w d, GrM (Mq q) G H G' H' → Purse q (b + 1) G' H' → d ∈ l → rp G' w d → Q w H'
def PLine : Sp := fun vs H Q _ => ∃ G q v ns, ∃ b : Int, vs = [.ref q, v] ∧ Same G H ∧ Purse q b G H ∧ rp G v ns ∧ Nm8 ns ∧ b < 2 ^ 37 ∧ ∀ G' H' w (t : Ln), GrM (Mq q) G H G' H' → Purse q (b + 20) G' H' → LnGood t → isLine t ns = true → rp G' w t → Q w H'
section
variable {P : Program} {w : World} {K : PySem.W.Frag} {mg : Str → Option Value} {base : Heap} {f C : Addr} {fd : FuncData}
theorem c_one_of {α : Type} [Rp α] (D : C8.Def K mg "_law_one_of" sLawOneOf f fd) (b : Binds K fd ["purse", "some"] []) (B : Bt mg) (cD : C8.Cal P w K mg base 2 "_law_draw" PDraw []) : C8.Cal P w K mg base 3 "_law_one_of" (POne α) [] := by
  refine C8.cal0 D b .nil scLawOneOf (fun vs H Q E h => ?_) fun cdv A outer s H vs Q E hr h => ?_
  · obtain ⟨G, q, v, l, b', rfl, _⟩ := h
    rfl
  · obtain ⟨G, q, v, l, b', rfl, sG, pq, r, hl, hl2, hb, kk⟩ := h
    refine ⟨_, pss_ws, ?_⟩
    refine ws_retW (we_ixI (α := α) (we_v 1 rfl (we_call2 cD hr (we_v 0 rfl (Ev.ap sG (Ev.lenL B (Ev.v 1 rfl r)) fun G1 H1 u g1 r1 => ?_)))))
    cases r1
    refine ⟨G1, q, _, b', rfl, g1.s, pq.gr g1, by omega, by omega, by omega, fun G2 H2 x g2 p2 x0 x1 => ?_⟩
    refine ⟨G2, l, x.toNat, g2.s, rup (g1.g.trans g2.g) r, by rw [Int.toNat_of_nonneg x0], by omega, fun w d hd rd => kk G2 H2 w d (g1.any.trans g2) p2 hd rd⟩
theorem c_line_text2 (D : C8.Def K mg "_law_line_text" sLawLineText f fd) (b : Binds K fd ["line"] []) : C8.Cal P w K mg base 1 "_law_line_text" (P1 LnGood textOfLine) [] := by
  refine fn1 D b scLawLineText rfl fun cdv A outer s H E G v t hr r h => ?_
  have hp := h.parts
  refine Bl.asg 1 (d := midOf t.a) (Ev.ite (ET.eqD hr.units (Ev.ix30 (Ev.v 0 rfl r)) Ev.str h.ok.1.2 (show PyData.strOk ("call" : Str) = true by decide +kernel)) (fun _ => Ev.str) fun _ => Ev.str) (fun G1 v1 s1 r1 => ?_) scLawLineText.nd
  have r' := rup s1 r
  have a1 := (word_zok hp.1).2.1
  have a2 := (isName_at hp.2.2.2.2.1).2.1
  have a3 := lon_len hp.2.1
  have a4 : (midOf t.a).length = 4 := by unfold midOf; split <;> decide +kernel
  have a5 : (" " : Str).length = 1 := by decide +kernel
  have a6 : sizeLine = 16777216 := rfl
  have e0 : Txt.join ", " t.b = lineOfNames t.b := by unfold lineOfNames; rw [if_neg hp.2.2.2.1]
  have e1 := len_cat t.a " "
  have e2 := len_cat (t.a ++ " ") t.c
  have e3 := len_cat (t.a ++ " " ++ t.c) (midOf t.a)
  refine Bl.rv (Ev.addS (Ev.addS (Ev.addS (Ev.addS (Ev.ix30 (Ev.v 0 rfl r')) Ev.str (by omega)) (Ev.ix32 (Ev.v 0 rfl r')) (by omega)) (Ev.v 1 rfl r1) (by omega)) (Ev.eq (Ev.join Ev.str (Ev.ix31 (Ev.v 0 rfl r')) ?_) e0) (by omega))
  have h2 := sum_le (fun z : Str => z.length) 8 t.b fun z hz => (isName_at (hp.2.1.name z hz)).2.1
  have h4 := hp.2.1.2
  have h5 : (", " : Str).length = 2 := by decide +kernel
  have h6 : (t.b.map (fun z : Str => z.length)).sum ≤ t.b.length * 8 := h2
  rw [h5]
  omega
/-- sorted(_law_shuffled(purse, names)[:1 + _law_draw(purse, len(names))]) -/
theorem we_field {X : Cx} {σ : St} {G H : Hp} {Q : VK} {q : Addr} {i j : Nat} {b' : Int} {x y : Str} {v : V} {ns : List Str} {p1 p2 p3 p4 p5 p6 p7 p8 p9 p10 p11 p12 p13 p14 : Pos} {k1} (B : Bt X.mg) (cS : C8.Cal X.prog X.w X.K X.mg X.base 3 "_law_shuffled" (PShuf Str) []) (cD : C8.Cal X.prog X.w X.K X.mg X.base 2 "_law_draw" PDraw []) (hr : Room 3 X.A) (s : Same G H) (pq : Purse q b' G H) (hb : b' < 2 ^ 37) (hi : σ[i]? = some (some (.ref q))) (hj : σ[j]? = some (some v)) (r : rp G v ns) (hn : Nm8 ns)
    (kk : ∀ G' H' w (f : List Str), GrM (Mq q) G H G' H' → Purse q (b' + 9) G' H' → Part f ns → rp G' w f → Q w H')
    (hN : X.N[i]? = some x := by rfl) (hM : X.N[j]? = some y := by rfl) (hv : Vis X.env.scope x := by first | exact Or.inl rfl | exact Or.inr (Or.inl rfl) | exact Or.inr (Or.inr rfl)) (hw : Vis X.env.scope y := by first | exact Or.inl rfl | exact Or.inr (Or.inl rfl) | exact Or.inr (Or.inr rfl))
    (hd : (x == ("__debug__" : Str)) = false := by decide) (hcd : (x == ("__classdict__" : Str)) = false := by decide) (hd2 : (y == ("__debug__" : Str)) = false := by decide) (hcd2 : (y == ("__classdict__" : Str)) = false := by decide)
    (g1 : Gl X "sorted" := by rfl) (g2 : Gl X "_law_shuffled" := by rfl) (g3 : Gl X "_law_draw" := by rfl) (g4 : Gl X "len" := by rfl) (c1 : starEach [.Subscript (.Call (.Name "_law_shuffled" p1) [.Name x p2, .Name y p3] [] p4) (.Slice none (some (.BinOp (.Constant (.int 1) k1 p5) .Add (.Call (.Name "_law_draw" p6) [.Name x p7, .Call (.Name "len" p8) [.Name y p9] [] p10] [] p11) p12)) none p13) p14] X.env = (false, eval (.Subscript (.Call (.Name "_law_shuffled" p1) [.Name x p2, .Name y p3] [] p4) (.Slice none (some (.BinOp (.Constant (.int 1) k1 p5) .Add (.Call (.Name "_law_draw" p6) [.Name x p7, .Call (.Name "len" p8) [.Name y p9] [] p10] [] p11) p12)) none p13) p14) X.env) :: starEach [] X.env := by rfl)
    {ps pc : Pos} (c2 : (backTo pc (starEach [] X.env)).any (·.1) = false := by rfl) (c3 : starEach [.Name x p2, .Name y p3] X.env = (false, eval (.Name x p2) X.env) :: starEach [.Name y p3] X.env := by rfl) (c4 : starEach [.Name y p3] X.env = (false, eval (.Name y p3) X.env) :: starEach [] X.env := by rfl) (c5 : (backTo p4 (starEach [.Name y p3] X.env)).any (·.1) = false := by rfl)
    (c6 : starEach [.Name x p7, .Call (.Name "len" p8) [.Name y p9] [] p10] X.env = (false, eval (.Name x p7) X.env) :: starEach [.Call (.Name "len" p8) [.Name y p9] [] p10] X.env := by rfl) (c7 : starEach [.Call (.Name "len" p8) [.Name y p9] [] p10] X.env = (false, eval (.Call (.Name "len" p8) [.Name y p9] [] p10) X.env) :: starEach [] X.env := by rfl) (c8 : (backTo p11 (starEach [.Call (.Name "len" p8) [.Name y p9] [] p10] X.env)).any (·.1) = false := by rfl)
    (c9 : starEach [.Name y p9] X.env = (false, eval (.Name y p9) X.env) :: starEach [] X.env := by rfl) (c10 : (backTo p10 (starEach [] X.env)).any (·.1) = false := by rfl) :
    WE X (.Call (.Name "sorted" ps) [.Subscript (.Call (.Name "_law_shuffled" p1) [.Name x p2, .Name y p3] [] p4) (.Slice none (some (.BinOp (.Constant (.int 1) k1 p5) .Add (.Call (.Name "_law_draw" p6) [.Name x p7, .Call (.Name "len" p8) [.Name y p9] [] p10] [] p11) p12)) none p13) p14] [] pc) σ H Q := by
  have h8 := hn.few
  have h1 := hn.pos
  refine we_sortedS B (we_slToI (α := Str) (we_call2 cS hr (we_v i hi (we_v j hj ?_ hM hw hd2 hcd2) hN hv hd hcd) (by decide) g2 (by decide) c3 c4 c5)) g1 c1 c2
  refine ⟨G, q, v, ns, b', rfl, s, pq, r, by omega, by omega, fun G1 H1 w1 l1 d1 e1 pm r1 => ?_⟩
  refine we_op op_add (Ev.ap d1.s (Ev.int (i := 1)) fun G2 H2 v2 d2 r2 => ?_)
  cases r2
  refine we_call2 cD hr (we_v i hi (Ev.ap d2.s (Ev.lenL B (Ev.v j hj (rup (d1.g.trans d2.g) r) hM hw hd2 hcd2) g4 c9 c10) fun G3 H3 v3 d3 r3 => ?_) hN hv hd hcd) (by decide) g3 (by decide) c6 c7 c8
  cases r3
  have e3 := (e1.gr d2).gr d3
  refine ⟨G3, q, _, _, rfl, d3.s, e3, by omega, by omega, by omega, fun G4 H4 z d4 e4 z0 z1 => ?_⟩
  refine ⟨1, z, rfl, rfl, G4, l1, 1 + z, rfl, d4.s, rup ((d2.trans d3).g.trans d4.g) r1, fun G5 H5 w5 d5 r5 => ?_⟩
  have ez : (1 + z : Int) = ((1 + z).toNat : Nat) := by rw [Int.toNat_of_nonneg (by omega)]
  rw [ez, cutL_to] at r5
  have gA : GrM (Mq q) G H G5 H5 := ((d1.trans (d2.trans d3).any).trans d4).trans d5.any
  refine ⟨G5, _, d5.s, r5, by rw [List.length_take, pm.length_eq]; omega, fun p hp => ?_⟩
  have gn := Gr.new (o := .lst ((sortS (l1.take (1 + z).toNat)).map V.str)) d5.s hp
  exact kk _ _ _ _ (gA.trans gn.any) (((e4.gr d5).gr gn).le (by omega)) (part_cut pm hn (by omega)) ⟨p, _, rfl, upd_same, strs_to _⟩
theorem c_line (D : C8.Def K mg "_law_line" sLawLine f fd) (b : Binds K fd ["purse", "names"] []) (B : Bt mg) (cD : C8.Cal P w K mg base 2 "_law_draw" PDraw []) (cS : C8.Cal P w K mg base 3 "_law_shuffled" (PShuf Str) []) (cO : C8.Cal P w K mg base 3 "_law_one_of" (POne Str) []) : C8.Cal P w K mg base 4 "_law_line" PLine [] := by
  refine C8.cal0 D b .nil scLawLine (fun vs H Q E h => ?_) fun cdv A outer s H vs Q E hr h => ?_
  · obtain ⟨G, q, v, ns, b', rfl, _⟩ := h
    rfl
  · obtain ⟨G, q, v, ns, b', rfl, sG, pq, r, hn, hb, kk⟩ := h
    refine ⟨_, pss_ws, ?_⟩
    refine ws_asgW 2 (we_field (i := 0) (j := 1) B cS cD hr sG pq hb rfl rfl r hn fun G1 H1 fw fl g1 p1 hf r1 => ?_) scLawLine.nd
    have hf8 := hf.sub hn
    have hl8 := hf8.few
    have hl1 := hf8.pos
    refine ws_asgW 3 (we_call2 cO hr (we_v 0 rfl (we_v 2 rfl ⟨G1, q, fw, fl, _, rfl, g1.s, p1, r1, hl1, by omega, by omega, fun G2 H2 nw n g2 p2 hnf r2 => ?_⟩))) scLawLine.nd
    cases r2
    have r1' := rup g2.g r1
    have rn : ∀ G : Hp, rp G (.str n) n := fun _ => rfl
    have nok : Da.lay n := (isName_zok (hf8.names n hnf)).2
    refine ws_asgSel 4 5 (t := fun o => !decide (o = n)) (Same.refl G2) g2.s (EI.list (Ev.v 2 rfl r1')) (fun d hd G' v' s1 r' s H C cl fp => ET.neD hr.units (Ev.v 5 rfl r') (Ev.v 3 rfl (rn _)) (isName_zok (hf8.names d hd)).2 nok) (fun G3 H3 rw3 g3 r3 => ?_) (Nat.lt_of_le_of_lt hl8 (by decide)) scLawLine.nd (blkOk_by (N := nLawLine) (sc := C8.fnScope sLawLine) (by decide +kernel))
    have g03 := (g1.trans g2).trans g3.any
    have lr : Da.lay (fl.filter fun o => !decide (o = n)) := fun z hz => (isName_zok (hf8.names z (List.mem_filter.mp hz).1)).2
    have fin : ∀ (w : Str) (fl2 : List Str) (G4 H4 : Hp) (u : V), GrM (Mq q) G H G4 H4 → Purse q (b' + 20) G4 H4 → (w = "call" ∨ w = "off") → Part fl2 ns → (n ∈ fl2 ↔ w = "call") → rp G4 u (⟨w, fl2, n⟩ : Ln) → Q u H4 := fun w fl2 G4 H4 u g4 p4 hw hp hc ru => by
      have hm := mk_line hn hw hp (hf.1 n hnf) hc
      exact kk G4 H4 u ⟨w, fl2, n⟩ g4 p4 hm.1 hm.2 ru
    refine ws_ifW (wt_or2 (ET.ap g3.s (ET.eqD hr.units (Ev.v 4 rfl r3) Ev.nil lr lay_nil) fun G4 H4 g4 => ?_))
    have p4 := (p2.gr g3).gr g4
    have g04 := g03.trans g4.any
    by_cases he : fl.filter (fun o => !decide (o = n)) = []
    · rw [decide_eq_true he, if_pos rfl]
      refine iteT (ws_retW (Ev.ap (a := (⟨"call", fl, n⟩ : Ln)) g4.s (Ev.tup3 Ev.str (Ev.v 2 rfl (rup (g3.trans g4).g r1')) (Ev.v 3 rfl (rn _))) fun G5 H5 u g5 r5 => ?_))
      exact fin "call" fl G5 H5 u (g04.trans g5.any) ((p4.gr g5).le (by omega)) (.inl rfl) hf ⟨fun _ => rfl, fun _ => hnf⟩ r5
    · rw [decide_eq_false he, if_neg Bool.false_ne_true]
      refine WT.of (pt_cmpR op_eq pe_we pe_int (nomark _)) (we_call2 cD hr (we_v 0 rfl (Ev.ap g4.s (Ev.int (i := 2)) fun G5 H5 v5 g5 r5 => ?_)))
      cases r5
      refine ⟨G5, q, 2, _, rfl, g5.s, p4.gr g5, by decide, by decide, by omega, fun G6 H6 z g6 p6 z0 z1 => ⟨rfl, _, rfl, ?_⟩⟩
      have g06 := (g04.trans g5.any).trans g6
      have s36 := (g4.trans g5).g.trans g6.g
      by_cases hz : V.int z = V.int 0
      · rw [decide_eq_true hz]
        refine iteT (ws_retW (Ev.ap (a := (⟨"call", fl, n⟩ : Ln)) g6.s (Ev.tup3 Ev.str (Ev.v 2 rfl (rup (g3.g.trans s36) r1')) (Ev.v 3 rfl (rn _))) fun G7 H7 u g7 r7 => ?_))
        exact fin "call" fl G7 H7 u (g06.trans g7.any) ((p6.gr g7).le (by omega)) (.inl rfl) hf ⟨fun _ => rfl, fun _ => hnf⟩ r7
      · rw [decide_eq_false hz]
        refine iteF (ws_nil (ws_retW (Ev.ap (a := (⟨"off", fl.filter (fun o => !decide (o = n)), n⟩ : Ln)) g6.s (Ev.tup3 Ev.str (Ev.v 4 rfl (rup s36 r3)) (Ev.v 3 rfl (rn _))) fun G7 H7 u g7 r7 => ?_)))
        refine fin "off" _ G7 H7 u (g06.trans g7.any) ((p6.gr g7).le (by omega)) (.inr rfl) ⟨fun z hz => hf.1 z (List.mem_filter.mp hz).1, (List.filter_sublist).nodup hf.2.1, List.Pairwise.sublist List.filter_sublist hf.2.2.1, he⟩ ⟨fun h => ?_, fun h => absurd h (by decide +kernel)⟩ r7
        have := (List.mem_filter.mp h).2
        simp at this
end
end T91

namespace T91
open PySem L2 D1 Rp
/-! ### rounds and rows that are drawn -/
theorem perm_sub2 {α : Type} [DecidableEq α] : ∀ {l m : List α}, l.Nodup → (∀ x ∈ l, x ∈ m) → m.length ≤ l.length → l.Perm m
  | [], m, _, _, hl => by
    have : m = [] := List.eq_nil_of_length_eq_zero (by simpa using hl)
    subst this
    exact List.Perm.refl _
  | a :: l, m, hn, hs, hl => by
    have hn' := List.nodup_cons.mp hn
    have p := List.perm_cons_erase (hs a List.mem_cons_self)
    have hlen := p.length_eq
    refine ((perm_sub2 hn'.2 (fun x hx => ?_) ?_).cons a).trans p.symm
    · rcases List.mem_cons.mp (p.mem_iff.mp (hs x (List.mem_cons_of_mem _ hx))) with e | h
      · subst e; exact absurd hx hn'.1
      · exact h
    · simp only [List.length_cons] at hl hlen
      omega
theorem perm_same {α : Type} [DecidableEq α] {l m : List α} (h1 : l.Nodup) (h2 : m.Nodup) (h : ∀ x, x ∈ l ↔ x ∈ m) : l.Perm m := perm_sub2 h1 (fun x hx => (h x).mp hx) (sub_len h2 fun x hx => (h x).mpr hx)
theorem mk_round {f c ns : List Str} (hn : Nm8 ns) (hf : Part f ns) (hc : Part c f) : RdGood (f, c) := by
  have f8 := hf.sub hn
  have c8 := hc.sub f8
  refine ⟨?_, f8.nok.2, c8.nok.2⟩
  unfold isRound isAscending
  rw [show areNames (f, c).1 = true from f8.nok.1, show areNames (f, c).2 = true from c8.nok.1, decide_eq_true (sortS_self hf.2.2.1).symm, decide_eq_true (sortS_self hc.2.2.1).symm, decide_eq_false hc.2.2.2, decide_eq_true (hc.1 : ∀ x ∈ (f, c).2, x ∈ (f, c).1)]
  rfl
def PRounds : Sp := fun vs H Q _ => ∃ G q v ns, ∃ n : Nat, ∃ b : Int, vs = [.ref q, v, .int (n : Int)] ∧ Same G H ∧ Purse q b G H ∧ rp G v ns ∧ Nm8 ns ∧ n ≤ 8 ∧ b < 2 ^ 36 ∧ ∀ G' H' w (l : List Rd), GrM (Mq q) G H G' H' → Purse q (b + 160) G' H' → l.length = n → (∀ t ∈ l, RdGood t) → rp G' w l → Q w H'
def PRows : Sp := fun vs H Q _ => ∃ G q v ns, ∃ n : Nat, ∃ b : Int, vs = [.ref q, v, .int (n : Int)] ∧ Same G H ∧ Purse q b G H ∧ rp G v ns ∧ Nm8 ns ∧ n ≤ 8 ∧ b < 2 ^ 36 ∧ ∀ G' H' w (l : List (List Str)), GrM (Mq q) G H G' H' → Purse q (b + 160) G' H' → l.length = n → (∀ t ∈ l, t.Perm ns) → rp G' w l → Q w H'
section
variable {P : Program} {w : World} {K : PySem.W.Frag} {mg : Str → Option Value} {base : Heap} {f C : Addr} {fd : FuncData}
theorem c_rounds_law (D : C8.Def K mg "_law_rounds_of" sLawRoundsOf f fd) (b : Binds K fd ["purse", "names", "many"] []) (B : Bt mg) (cD : C8.Cal P w K mg base 2 "_law_draw" PDraw []) (cS : C8.Cal P w K mg base 3 "_law_shuffled" (PShuf Str) []) : C8.Cal P w K mg base 4 "_law_rounds_of" PRounds [] := by
  refine C8.cal0 D b .nil scLawRoundsOf (fun vs H Q E h => ?_) fun cdv A outer s H vs Q E hr h => ?_
  · obtain ⟨G, q, v, ns, n, b', rfl, _⟩ := h
    rfl
  · obtain ⟨G, q, v, ns, n, b', rfl, sG, pq, r, hn, hn8, hb, kk⟩ := h
    refine ⟨_, pss_ws, ?_⟩
    refine ws_asgW 3 (we_lstM (xs := ([] : List Rd)) sG EL.nil (fun G1 H1 vs fo g1 hfo pr => ?_) (show 0 ≤ 1000 by decide)) scLawRoundsOf.nd
    cases pr
    have hfo0 := g1.fresh hfo
    have pq1 := pq.gr g1
    have qfo : q ≠ fo := fun e => by subst e; exact pq.some hfo0
    have gfo1 := g1.s.free hfo
    have g1' := g1.trans (Gr.newM (o := .lst []) g1.s hfo)
    have hup : (upto ((n : Nat) : Int).toNat).length = n := by simp [upto]
    refine ws_for (fun i σ' G' H' => ∃ acc t4 t5, ∃ l' : List Rd, σ' = [some (.ref q), some v, some (.int (n : Int)), some (.ref fo), t4, t5] ∧ GrM (Mq q) G H G' H' ∧ Purse q (b' + 18 * (i : Nat)) G' H' ∧ G' fo = none ∧ H' fo = some (.lst acc) ∧ Paired (rp G') acc l' ∧ l'.length = i ∧ ∀ t ∈ l', RdGood t)
      (G := G1) (Same.refl _) g1'.s (EI.range1 B.range (Ev.v 2 rfl (show rp _ (.int (n : Int)) (n : Int) from rfl)) ⟨by omega, by omega⟩) tgB1 (pg_name (i := 4) scLawRoundsOf.nd rfl (by first | exact Or.inl rfl | exact Or.inr rfl))
      (fun G2 H2 g2 => ⟨[], none, none, [], rfl, (g1'.trans g2).any, ((pq1.off qfo).gr g2).le (by omega), g2.f fo gfo1 (by rw [upd_same]; exact fun z => nomatch z), g2.hh _ _ upd_same, .nil, rfl, fun t ht => by cases ht⟩) ?_ ?_ PassesOwn.never
    · rintro i c σ1 G2 H2 hc s12 s22 ⟨acc, t4, t5, l', rfl, gA, p2, nf, hf, pr, hl', hg'⟩ G3 H3 σ2 g3 ⟨lw, rl, rfl⟩
      have hi : i < n := by rw [← hup]; exact (List.getElem?_eq_some_iff.mp hc).1
      have nf3 := g3.f fo nf (by rw [hf]; exact fun z => nomatch z)
      have hf3 := g3.hh _ _ hf
      refine ws_asgW 5 (we_field (i := 0) (j := 1) B cS cD hr g3.s (p2.gr g3) (by omega) rfl rfl (rup (gA.g.trans g3.g) r) hn fun G4 H4 fw fl g4 p4 hfl r4 => ?_) scLawRoundsOf.nd
      have hf4 : H4 fo = some (.lst acc) := g4.h fo _ (fun e => qfo e.symm) hf3
      have nf4 := g4.f fo nf3 (by rw [hf3]; exact fun z => nomatch z)
      refine ws_exprW (WE.of (pe_bm PySem.F.plainAttrs_list PySem.F.slot_list_append PySem.F.type_list_append mt_append (pv 3) (pa_cons pe_we pa_nil)) ?_)
      refine ⟨.ref fo, rfl, .inl ⟨rfl, _, SqL.of hf4⟩, ?_⟩
      refine WE.of (pe_tup (pa_cons pe_we (pa_cons pe_we pa_nil))) (we_v 5 rfl (we_field (i := 0) (j := 5) B cS cD hr g4.s p4 (by omega) rfl rfl r4 (hfl.sub hn) fun G5 H5 cw cl g5 p5 hcl r5 => ⟨small_sz (n := 2), fun tp htp => ?_⟩))
      have hf5 : H5 fo = some (.lst acc) := g5.h fo _ (fun e => qfo e.symm) hf4
      have nf5 := g5.f fo nf4 (by rw [hf4]; exact fun z => nomatch z)
      have g6 := Gr.new (o := .tup [fw, cw]) g5.s htp
      have ftp : fo ≠ tp := fun e => by subst e; rw [hf5] at htp; cases htp
      have s36 := (g4.g.trans g5.g).trans g6.g
      have hal : acc.length = i := pr.length.trans hl'
      have gB : GrM (Mq q) G H _ _ := (((gA.trans g3.any).trans g4).trans g5).trans g6.any
      have nf6 : upd G5 tp (.tup [fw, cw]) fo = none := by rw [upd_ne ftp]; exact nf5
      refine ⟨fo, acc, .ref tp, rfl, rfl, by rw [upd_ne ftp]; exact hf5, by rw [hal]; exact Nat.lt_of_lt_of_le hi (Nat.le_trans hn8 (by decide)), ?_⟩
      refine ws_nil ⟨_, s36, (gB.off hfo0 nf6).s, _, some lw, some fw, l' ++ [(fl, cl)], rfl, gB.off hfo0 nf6, ((p5.gr g6).off qfo).le (by omega), nf6, upd_same, ?_, by rw [List.length_append, hl']; rfl, fun t ht => ?_⟩
      · exact r2_cat.PairedAppend (pmono pr fun _ _ => rup (g3.g.trans s36)) (.cons ⟨tp, fw, cw, rfl, upd_same, rup (g5.g.trans g6.g) r4, rup g6.g r5⟩ .nil)
      · rcases List.mem_append.mp ht with ht | ht
        · exact hg' t ht
        · rw [List.mem_singleton.mp ht]; exact mk_round hn hfl hcl
    · rintro σ1 G2 H2 s12 s22 ⟨acc, t4, t5, l', rfl, gA, p2, nf, hf, pr, hl', hg'⟩
      rw [hup] at hl' p2
      exact ws_retW (we_v 3 rfl (kk (upd G2 fo (.lst acc)) H2 _ l' (gA.promote hfo0 nf hf) ((p2.up qfo).le (by omega)) hl' hg' ⟨fo, acc, rfl, upd_same, pmono pr fun _ _ => rup (same_new nf)⟩))
theorem c_rows_law (D : C8.Def K mg "_law_rows_of" sLawRowsOf f fd) (b : Binds K fd ["purse", "names", "many"] []) (B : Bt mg) (cD : C8.Cal P w K mg base 2 "_law_draw" PDraw []) (cS : C8.Cal P w K mg base 3 "_law_shuffled" (PShuf Str) []) : C8.Cal P w K mg base 4 "_law_rows_of" PRows [] := by
  refine C8.cal0 D b .nil scLawRowsOf (fun vs H Q E h => ?_) fun cdv A outer s H vs Q E hr h => ?_
  · obtain ⟨G, q, v, ns, n, b', rfl, _⟩ := h
    rfl
  · obtain ⟨G, q, v, ns, n, b', rfl, sG, pq, r, hn, hn8, hb, kk⟩ := h
    refine ⟨_, pss_ws, ?_⟩
    have h8 := hn.few
    have h1 := hn.pos
    refine WS.cons (ps_par (i := 3) (j := 4) rfl scLawRowsOf.nd rfl rfl (by decide) rfl rfl (pa_cons pe_we (pa_cons pe_we pa_nil)) rfl) ?_
    refine we_call2 cS hr (we_v 0 rfl (we_v 1 rfl ⟨G, q, v, ns, b', rfl, sG, pq, r, by omega, by omega, fun G1 H1 bw bl g1 p1 bp rb => ?_⟩))
    refine we_lstM (xs := ([] : List (List Str))) g1.s EL.nil (fun G2 H2 vs fo g2 hfo pr => ?_) (show 0 ≤ 1000 by decide)
    cases pr
    refine ⟨bw, .ref fo, rfl, ?_⟩
    have hfo0 : H fo = none := g1.fresh (g2.fresh hfo)
    have p2 := p1.gr g2
    have qfo : q ≠ fo := fun e => by subst e; exact pq.some hfo0
    have gfo2 := g2.s.free hfo
    have g12 : GrM (Mq q) G H G2 H2 := g1.trans g2.any
    have g2' := g12.off (o := .lst []) hfo0 gfo2
    have rb2 := rup g2.g rb
    refine ws_asgW 5 (we_call2 cD hr (we_v 0 rfl (Ev.ap g2'.s (Ev.int (i := 3)) fun G3 H3 v3 g3 r3 => ?_))) scLawRowsOf.nd
    cases r3
    refine ⟨G3, q, 3, _, rfl, g3.s, (p2.off qfo).gr g3, by decide, by decide, by omega, fun G4 H4 wy g4 p4 w0 w3 => ?_⟩
    have gfo3 := g3.f fo gfo2 (by rw [upd_same]; exact fun z => nomatch z)
    have hfo3 := g3.hh _ _ (upd_same (H := H2) (o := .lst []))
    have hfo4 : H4 fo = some (.lst []) := g4.h fo _ (fun e => qfo e.symm) hfo3
    have gfo4 := g4.f fo gfo3 (by rw [hfo3]; exact fun z => nomatch z)
    have g04 := (g2'.trans g3.any).trans g4
    have rb4 := rup (g3.g.trans g4.g) rb2
    have hup : (upto ((n : Nat) : Int).toNat).length = n := by simp [upto]
    have bnd : bl.Nodup := bp.nodup_iff.mpr hn.nodup
    refine ws_for (fun i σ' G' H' => ∃ acc t6 t7 t8 t9 t10, ∃ l' : List (List Str), σ' = [some (.ref q), some v, some (.int (n : Int)), some bw, some (.ref fo), some (.int wy), t6, t7, t8, t9, t10] ∧ GrM (Mq q) G H G' H' ∧ Purse q (b' + 9 + 10 * (i : Nat)) G' H' ∧ G' fo = none ∧ H' fo = some (.lst acc) ∧ Paired (rp G') acc l' ∧ l'.length = i ∧ ∀ t ∈ l', t.Perm ns)
      (G := G4) (Same.refl _) g04.s (EI.range1 B.range (Ev.v 2 rfl (show rp _ (.int (n : Int)) (n : Int) from rfl)) ⟨by omega, by omega⟩) tgB1 (pg_name (i := 6) scLawRowsOf.nd rfl (by first | exact Or.inl rfl | exact Or.inr rfl))
      (fun G5 H5 g5 => ⟨[], none, none, none, none, none, [], rfl, g04.trans g5.any, (p4.gr g5).le (by omega), g5.f fo gfo4 (by rw [hfo4]; exact fun z => nomatch z), g5.hh _ _ hfo4, .nil, rfl, fun t ht => by cases ht⟩) ?_ ?_ PassesOwn.never
    · rintro i c σ1 G5 H5 hc s45 s55 ⟨acc, t6, t7, t8, t9, t10, l', rfl, gA, p5, nf, hf, pr, hl', hg'⟩ G6 H6 σ2 g6 ⟨lw, rl, rfl⟩
      have hi : i < n := by rw [← hup]; exact (List.getElem?_eq_some_iff.mp hc).1
      have nf6 := g6.f fo nf (by rw [hf]; exact fun z => nomatch z)
      have hf6 := g6.hh _ _ hf
      refine ws_asgW 7 (we_call2 cS hr (we_v 0 rfl (we_v 1 rfl ⟨G6, q, v, ns, _, rfl, g6.s, p5.gr g6, rup (gA.g.trans g6.g) r, by omega, by omega, fun G7 H7 rw7 rl7 g7 p7 rp7 r7 => ?_⟩))) scLawRowsOf.nd
      have nf7 := g7.f fo nf6 (by rw [hf6]; exact fun z => nomatch z)
      have hf7 : H7 fo = some (.lst acc) := g7.h fo _ (fun e => qfo e.symm) hf6
      have hal : acc.length = i := pr.length.trans hl'
      have gB := (gA.trans g6.any).trans g7
      -- the end of the turn, with the row that is put
      have fin : ∀ (D : Ends), D.nx = (fun σ' H' => ∃ G', Same G6 G' ∧ Same G' H' ∧ (∃ acc t6 t7 t8 t9 t10, ∃ l' : List (List Str), σ' = [some (.ref q), some v, some (.int (n : Int)), some bw, some (.ref fo), some (.int wy), t6, t7, t8, t9, t10] ∧ GrM (Mq q) G H G' H' ∧ Purse q (b' + 9 + 10 * ((i + 1 : Nat))) G' H' ∧ G' fo = none ∧ H' fo = some (.lst acc) ∧ Paired (rp G') acc l' ∧ l'.length = i + 1 ∧ ∀ t ∈ l', t.Perm ns)) → ∀ (G8 H8 : Hp) (u t8' t9' t10' : Option V) (rw8 : V) (row : List Str), u = some rw8 → GrM (Mq q) G H G8 H8 → Same G7 G8 → Purse q (b' + 9 + 10 * ((i + 1 : Nat))) G8 H8 → G8 fo = none → H8 fo = some (.lst acc) → rp G8 rw8 row → row.Perm ns →
          WS (BX P w K mg base nLawRowsOf "_law_rows_of" sLawRowsOf f cdv A outer s H E) (match C8.fnBody sLawRowsOf with | [_, _, .For _ _ [_, _, e] _ _, _] => [e] | _ => []) D [some (.ref q), some v, some (.int (n : Int)), some bw, some (.ref fo), some (.int wy), some lw, u, t8', t9', t10'] H8 := fun D hD G8 H8 u t8' t9' t10' rw8 row hu g8 s78 p8 nf8 hf8 r8 hp8 => by
        subst hu
        refine ws_exprW (WE.of (pe_bm PySem.F.plainAttrs_list PySem.F.slot_list_append PySem.F.type_list_append mt_append (pv 4) (pa_cons pe_we pa_nil)) ?_)
        refine ⟨.ref fo, rfl, .inl ⟨rfl, _, SqL.of hf8⟩, we_v 7 rfl ?_⟩
        refine ⟨fo, acc, rw8, rfl, rfl, hf8, by rw [hal]; exact Nat.lt_of_lt_of_le hi (Nat.le_trans hn8 (by decide)), ?_⟩
        refine ws_nil ?_
        rw [hD]
        refine ⟨G8, g7.g.trans s78, (g8.off hfo0 nf8).s, _, some lw, some rw8, t8', t9', t10', l' ++ [row], rfl, g8.off hfo0 nf8, p8.off qfo, nf8, upd_same, r2_cat.PairedAppend (pmono pr fun _ _ => rup ((g6.g.trans g7.g).trans s78)) (.cons r8 .nil), by rw [List.length_append, hl']; rfl, fun t ht => ?_⟩
        rcases List.mem_append.mp ht with ht | ht
        · exact hg' t ht
        · rw [List.mem_singleton.mp ht]; exact hp8
      have hrl : rl7.length ≤ 8 := by rw [rp7.length_eq]; exact h8
      have rnd : rl7.Nodup := rp7.nodup_iff.mpr hn.nodup
      refine ws_ifW (ET.ap g7.s (ET.gt (Ev.v 5 rfl (show rp _ (.int wy) wy from rfl)) Ev.int) fun G8 H8 g8 => ?_)
      have nf8 := g8.f fo nf7 (by rw [hf7]; exact fun z => nomatch z)
      have hf8 := g8.hh _ _ hf7
      have g08 := gB.trans g8.any
      by_cases hw : 0 < wy
      · rw [show decide (wy > 0) = true from decide_eq_true hw]
        refine iteT ?_
        refine WS.cons (ps_asg pe_we (pg_two (i := 8) (j := 9) rfl scLawRowsOf.nd rfl rfl (by first | exact Or.inl rfl | exact Or.inr rfl) (by first | exact Or.inl rfl | exact Or.inr rfl) (by first | exact .inl rfl | exact .inr rfl) (by first | exact .inl rfl | exact .inr rfl))) ?_
        refine WE.of (pe_tup (pa_cons pe_we (pa_cons pe_we pa_nil))) ?_
        refine we_call2 cD hr (we_v 0 rfl (Ev.ap g8.s (Ev.lenL B (Ev.v 1 rfl (rup g08.g r))) fun G9 H9 v9 g9 r9 => ?_))
        cases r9
        refine ⟨G9, q, _, _, rfl, g9.s, (p7.gr g8).gr g9, by omega, by omega, by omega, fun G10 H10 cu g10 p10 c0 c1 => ?_⟩
        refine we_slToI (α := Str) (we_v 7 rfl (we_op op_sub (we_op op_add (we_call2 cD hr (we_v 0 rfl (Ev.ap g10.s (Ev.int (i := 3)) fun G11 H11 v11 g11 r11 => ?_))))))
        cases r11
        refine ⟨G11, q, 3, _, rfl, g11.s, p10.gr g11, by decide, by decide, by omega, fun G12 H12 z g12 p12 z0 z3 => we_v 5 rfl ⟨z, wy, rfl, rfl, WE.of pe_int ⟨z + wy, 1, rfl, rfl, ?_⟩⟩⟩
        have s712 := (g8.trans g9).g.trans (g10.g.trans (g11.g.trans g12.g))
        refine ⟨G12, rl7, z + wy - 1, rfl, g12.s, rup s712 r7, fun G13 H13 hw13 g13 r13 => ⟨small_sz (n := 2), fun tp htp => ?_⟩⟩
        have ez : (z + wy - 1 : Int) = ((z + wy - 1).toNat : Nat) := by rw [Int.toNat_of_nonneg (by omega)]
        rw [ez, cutL_to] at r13
        generalize (z + wy - 1).toNat = m at r13
        have g14 := Gr.new (o := .tup [.int cu, hw13]) g13.s htp
        have nf9 := g9.f fo nf8 (by rw [hf8]; exact fun z => nomatch z)
        have hf9 := g9.hh _ _ hf8
        have hf10 : H10 fo = some (.lst acc) := g10.h fo _ (fun e => qfo e.symm) hf9
        have nf10 := g10.f fo nf9 (by rw [hf9]; exact fun z => nomatch z)
        have nf11 := g11.f fo nf10 (by rw [hf10]; exact fun z => nomatch z)
        have hf11 := g11.hh _ _ hf10
        have hf12 : H12 fo = some (.lst acc) := g12.h fo _ (fun e => qfo e.symm) hf11
        have nf12 := g12.f fo nf11 (by rw [hf11]; exact fun z => nomatch z)
        have g1214 := g13.trans g14
        have hf14 := g1214.hh _ _ hf12
        have nf14 := g1214.f fo nf12 (by rw [hf12]; exact fun z => nomatch z)
        have g014 := ((((g08.trans g9.any).trans g10).trans g11.any).trans g12).trans g1214.any
        have p14 := (p12.gr g13).gr g14
        refine g_two (x := (cu : Int)) (y := rl7.take m) g14.s ⟨tp, _, _, rfl, upd_same, rfl, rup g14.g r13⟩ fun u w ru rw14 => ?_
        have s414 : Same G4 _ := s45.trans (g6.g.trans (g7.g.trans (s712.trans g1214.g)))
        have lnm : ∀ z ∈ rl7, Da.lay z := fun z hz => (isName_zok (hn.names z (rp7.mem_iff.mp hz))).2
        have lbm : ∀ z ∈ bl, Da.lay z := fun z hz => (isName_zok (hn.names z (bp.mem_iff.mp hz))).2
        have e3 : sizeLine = 16777216 := rfl
        have hbl : bl.length ≤ 8 := by rw [bp.length_eq]; exact h8
        have hperm : (rl7.take m ++ bl.filter (fun z => !decide (z ∈ rl7.take m))).Perm ns := by
          refine perm_same (List.nodup_append.mpr ⟨(List.take_sublist _ _).nodup rnd, (List.filter_sublist).nodup bnd, fun x hx y hy e => ?_⟩) hn.nodup fun x => ?_
          · subst e
            have := (List.mem_filter.mp hy).2
            simp [hx] at this
          · rw [List.mem_append, List.mem_filter]
            constructor
            · rintro (h | h)
              · exact rp7.mem_iff.mp (List.mem_of_mem_take h)
              · exact bp.mem_iff.mp h.1
            · intro h
              by_cases hx : x ∈ rl7.take m
              · exact .inl hx
              · exact .inr ⟨bp.mem_iff.mpr h, by simp [hx]⟩
        have hfl := List.length_filter_le (fun z => !decide (z ∈ rl7.take m)) bl
        refine ws_asg 7 (Same.refl _) g14.s (Ev.cat (Ev.v 9 rfl rw14) (Ev.lcSel 10 (t := fun z => !decide (z ∈ rl7.take m)) (EI.list (Ev.v 3 rfl (rup s414 rb4))) (fun d hd G' v' s1 r' s H C cl fp => ET.niD hr.units65 (Ev.v 10 rfl r') (Ev.v 9 rfl (rup s1 rw14)) (lbm d hd) fun z hz => lnm z (List.mem_of_mem_take hz)) (by omega) scLawRowsOf.nd (blkOk_by (N := nLawRowsOf) (sc := C8.fnScope sLawRowsOf) (by decide +kernel))) (by rw [List.length_take]; omega)) (fun G15 H15 w15 g15 r15 => ?_) scLawRowsOf.nd
        refine ws_asg 7 (Same.refl _) g15.s (Ev.ite (ET.gt (Ev.v 8 rfl (rup g15.g ru)) Ev.int) (fun _ => Ev.v 7 rfl r15) fun _ => Ev.revL (Ev.v 7 rfl r15)) (fun G16 H16 w16 g16 r16 => ?_) scLawRowsOf.nd
        have g1416 := g15.trans g16
        refine ws_nil (fin _ rfl G16 H16 (some w16) (some u) (some w) t10 w16 _ rfl (g014.trans g1416.any) ((s712.trans g1214.g).trans g1416.g) ((p14.gr g1416).le (by omega)) (g1416.f fo nf14 (by rw [hf14]; exact fun z => nomatch z)) (g1416.hh _ _ hf14) r16 ?_)
        split
        · exact hperm
        · exact (List.reverse_perm _).trans hperm
      · rw [show decide (wy > 0) = false from decide_eq_false hw]
        refine iteF (ws_nil (fin _ rfl G8 H8 (some rw7) t8 t9 t10 rw7 rl7 rfl g08 g8.g ((p7.gr g8).le (by omega)) nf8 hf8 (rup g8.g r7) rp7))
    · rintro σ1 G5 H5 s45 s55 ⟨acc, t6, t7, t8, t9, t10, l', rfl, gA, p5, nf, hf, pr, hl', hg'⟩
      rw [hup] at hl' p5
      exact ws_retW (we_v 4 rfl (kk (upd G5 fo (.lst acc)) H5 _ l' (gA.promote hfo0 nf hf) ((p5.up qfo).le (by omega)) hl' hg' ⟨fo, acc, rfl, upd_same, pmono pr fun _ _ => rup (same_new nf)⟩))
end
end T91

namespace T91
open PySem L2 D1 Rp
/-! ### the parts of the law -/
open SX
def PRight : Sp := fun vs H Q _ => ∃ G q v ns, ∃ b : Int, vs = [.ref q, v] ∧ Same G H ∧ Purse q b G H ∧ rp G v ns ∧ Nm8 ns ∧ b < 2 ^ 34 ∧ ∀ G' H', GrM (Mq q) G H G' H' → Purse q (b + 400) G' H' → Q (.bl true) H'
theorem GrM.drop {M : Addr → Prop} {G H G' H' : Hp} (g : GrM M G H G' H') : GrM M G H G H' := ⟨Same.refl G, g.h, g.g.trans g.s, fun _ e _ => e, g.d⟩
theorem cost_names {l : List Str} (h : ∀ z ∈ l, isName z = true) (hl : l.length < 64) : Sh.cost l ≤ 6000 := by
  show (l.map fun a => Sh.cost a + 2).sum + 2 ≤ 6000
  have := sum_le (fun a : Str => Sh.cost a + 2) 84 l fun z hz => by
    show 10 * z.length + 2 + 2 ≤ 84
    have := (isName_at (h z hz)).2.1
    omega
  omega
section
variable {P : Program} {w : World} {K : PySem.W.Frag} {mg : Str → Option Value} {base : Heap} {f C : Addr} {fd : FuncData}
theorem c_names_right (D : C8.Def K mg "_law_names_right" sLawNamesRight f fd) (b : Binds K fd ["purse", "names"] []) (B : Bt mg) (hR : mg "repr" = none) (cD : C8.Cal P w K mg base 2 "_law_draw" PDraw []) (cO : C8.Cal P w K mg base 3 "_law_one_of" (POne Str) []) (cT : C8.Cal P w K mg base 2 "names_text" (P1 Nm lineOfNames) [])
    (cN : C8.Cal P w K mg base 4 "read_names" (P1F (fun t => ∃ ns, Nm ns ∧ t = lineOfNames ns) (fun t => (namesOf t).getD [])) []) : CalG P w K mg base 5 "_law_names_right" PRight := by
  refine CalG.of D b scLawNamesRight (fun vs H Q E h => ?_) fun cdv A outer s H vs Q E noG hr h => ?_
  · obtain ⟨G, q, v, ns, b', rfl, _⟩ := h
    rfl
  · obtain ⟨G, q, v, ns, b', rfl, sG, pq, r, hn, hb, kk⟩ := h
    have h8 := hn.few
    have h1 := hn.pos
    refine ws_setLcI (own := [("turn", 3)]) 2 (fun s H C cl fp => pg_name (i := 3) scLawNamesRight.nd rfl (by first | exact Or.inl rfl | exact Or.inr rfl) (by first | exact .inr rfl | exact .inl rfl))
      (tlc_R (own := [("turn", 3)]) (j := 3) (G1 := G) (fun n D i acc G' H' => n ≤ 3 ∧ GrM (Mq q) G H G' H' ∧ Purse q (b' + 1 + (i : Nat)) G' H' ∧ q ≠ D ∧ ∃ l : List Str, Paired (rp G') acc l ∧ l.length = i ∧ ∀ z ∈ l, z ∈ ns) B.range
        (we_call2 cD hr (we_v 0 rfl (Ev.ap sG (Ev.int (i := 4)) fun G1 H1 v1 g1 r1 => ?_))) ?_ ?_ (fun _ => rfl)) scLawNamesRight.nd (blkOk_by (N := nLawNamesRight) (sc := C8.fnScope sLawNamesRight) (by decide +kernel))
    · cases r1
      refine ⟨G1, q, 4, b', rfl, g1.s, pq.gr g1, by decide, by decide, by omega, fun G2 H2 z g2 p2 z0 z4 => ?_⟩
      have g12 : GrM (Mq q) G H G2 H2 := g1.any.trans g2
      refine ⟨z.toNat, by rw [Int.toNat_of_nonneg z0], by omega, G2, g12.g, g12.s, g12.d, fun D hD => ?_⟩
      have qD : q ≠ D := fun e => by subst e; exact p2.some hD
      exact ⟨by omega, g12.off (g12.fresh hD) (g12.s.free hD), (p2.off qD).le (by omega), qD, [], .nil, rfl, fun z hz => by cases hz⟩
    · rintro n D i acc G2 H2 hi s12 s22 gD hacc hal hD1 ⟨hn3, gA, p2, qD, l, pr, hl, hsub⟩ G3 H3 g3 s0 H0 C cl fp
      refine we_call2 cO hr (we_v 0 rfl (we_v 1 rfl ⟨G3, q, v, ns, _, rfl, g3.s, p2.gr g3, rup (s12.trans g3.g) r, h1, by omega, by omega, fun G4 H4 w4 d g4 p4 hd rd => ?_⟩))
      have gD3 := g3.f D gD (by rw [hacc]; exact fun z => nomatch z)
      have hD3 := g3.hh _ _ hacc
      have hD4 : H4 D = some (.lst acc) := g4.h D _ (fun e => qD e.symm) hD3
      have gD4 := g4.f D gD3 (by rw [hD3]; exact fun z => nomatch z)
      have gB := (gA.trans g3.any).trans g4
      refine ⟨G4, g4.g, g4.s, gD4, hD4, hn3, gB.off hD1 gD4, (p4.off qD).le (by omega), qD, l ++ [d], r2_cat.PairedAppend (pmono pr fun _ _ => rup (g3.g.trans g4.g)) (.cons rd .nil), by rw [List.length_append, hl]; rfl, fun z hz => ?_⟩
      rcases List.mem_append.mp hz with hz | hz
      · exact hsub z hz
      · rw [List.mem_singleton.mp hz]; exact hd
    · rintro n D acc G2 H2 s12 s22 gD hacc hal hD1 ⟨hn3, gA, p2, qD, l, pr, hl, hsub⟩
      have hl3 : l.length ≤ 3 := by omega
      have hnm : Nm l := ⟨fun z hz => hn.names z (hsub z hz), by omega⟩
      have gC := gA.promote hD1 gD hacc
      have pC := p2.up (o := .lst acc) qD
      have sU : Same G2 (upd G2 D (.lst acc)) := same_new gD
      have rl : rp (upd G2 D (.lst acc)) (.ref D) l := ⟨D, acc, rfl, upd_same, pmono pr fun _ _ => rup sU⟩
      have ly := hnm.lok.lay
      have a6 : sizeLine = 16777216 := rfl
      refine WS.cons (ps_par (i := 4) (j := 5) rfl scLawNamesRight.nd rfl rfl (by decide) rfl rfl (pa_cons pe_we (pa_cons pe_we pa_nil)) rfl) ?_
      refine Ev.ap (a := l) gC.s (Ev.listOf B (Ev.v 2 rfl rl)) fun G3 H3 kw g3 rk => ?_
      refine Ev.ap (a := lineOfNames l) g3.s (Ev.eq (Ev.ite (ET.neD hr.units (Ev.v 2 rfl (rup g3.g rl)) Ev.nil ly lay_nil) (fun _ => Ev.join Ev.str (Ev.v 2 rfl (rup g3.g rl)) ?_) fun _ => Ev.str) ?_) fun G4 H4 tw g4 rt => ⟨kw, tw, rfl, ?_⟩
      · have h2 := sum_le (fun z : Str => z.length) 8 l fun z hz => (isName_at (hnm.1 z hz)).2.1
        have h5 : (", " : Str).length = 2 := by decide +kernel
        have h6 : (l.map (fun z : Str => z.length)).sum ≤ l.length * 8 := h2
        rw [h5]
        omega
      · unfold lineOfNames
        by_cases e : l = []
        · rw [if_pos e, decide_eq_true e]; rfl
        · rw [if_neg e, decide_eq_false e]; rfl
      cases rt
      have rl4 := rup (g3.trans g4).g rl
      have rk4 := rup g4.g rk
      have hlen := lon_len2 hnm
      have hok := lon_ok hnm
      have hcz : Sh.cost (lineOfNames l) ≤ sizeLine := by show 10 * (lineOfNames l).length + 2 ≤ _; omega
      have hcl : Sh.cost l ≤ sizeLine := Nat.le_trans (cost_names hnm.1 hnm.2) (by decide)
      have rdn : (fun t => (namesOf t).getD []) (lineOfNames l) = l := by show (namesOf (lineOfNames l)).getD [] = l; rw [namesOf_lon hnm.1]; rfl
      have rtx : ∀ G : Hp, rp G (.str (lineOfNames l)) (lineOfNames l) := fun _ => rfl
      refine ws_ifF (Same.refl G4) g4.s (ET.eq (EW.t (EW.or (ET.neS (Ev.reprS noG hr.units hR (Ev.call1 cT hr (Ev.v 2 rfl rl4) hnm) hok hcz) (Ev.reprS noG hr.units hR (Ev.v 5 rfl (rtx _)) hok hcz)) fun _ => EW.or (ET.neS (Ev.reprS noG hr.units hR (Ev.eq (EvF.ev (EvF.call1 cN hr (Ev.v 5 rfl (rtx _)) ⟨l, hnm, rfl⟩)) rdn) ly hcl) (Ev.reprS noG hr.units hR (Ev.v 4 rfl rk4) ly hcl)) fun _ => EW.or1 (ET.neD hr.units (Ev.v 2 rfl rl4) (Ev.v 4 rfl rk4) ly ly))) (by simp)) fun G5 H5 g5 => ?_
      have g35 := (g3.trans g4).trans g5
      have gD5 := gC.trans g35.any
      have p5 := pC.gr g35
      refine ws_exprW (WE.of (pe_bm PySem.F.plainAttrs_list PySem.F.slot_list_append PySem.F.type_list_append mt_append pe_we (pa_cons pe_str pa_nil)) ?_)
      refine EvF.ap (d := l) g5.s (EvF.eq (EvF.call1 cN hr (Ev.v 5 rfl (rtx _)) ⟨l, hnm, rfl⟩) rdn) fun G6 H6 w6 g6 r6 => ?_
      obtain ⟨p, xs, rfl, hp, pr6⟩ := r6
      obtain ⟨hp5, gp6⟩ := dif_at hp
      have hp6 := g6.s _ _ gp6
      refine ⟨.inl ⟨rfl, _, SqL.of hp6⟩, p, xs, .str "more", rfl, rfl, hp6, by have := pr6.length; omega, ?_⟩
      have gd := (GrM.drop g6).off (o := .lst (xs ++ [.str "more"])) hp5 (g5.s.free hp5)
      have qp : q ≠ p := fun e => by subst e; exact p5.some hp5
      refine ws_retW (Ev.ap gd.s (Ev.eqD hr.units (Ev.eq (EvF.ev (EvF.call1 cN hr (Ev.v 5 rfl (rtx _)) ⟨l, hnm, rfl⟩)) rdn) (Ev.v 4 rfl (rup g5.g rk4)) ly ly) fun G7 H7 u g7 r7 => ?_)
      have e7 : u = .bl true := by rw [decide_eq_true rfl] at r7; exact r7
      subst e7
      exact kk G7 H7 ((gD5.trans gd.any).trans g7.any) (((p5.gr gd).gr g7).le (by omega))
end
end T91

namespace T91
open PySem L2 D1 Rp
/-! ### panels right -/
open SX
section
variable {P : Program} {w : World} {K : PySem.W.Frag} {mg : Str → Option Value} {base : Heap} {f C eqf : Addr} {fd fe : FuncData}
theorem m_panel_entries (F : C8.Fun K "entries" "Panel.entries" sPanelEntries f fd) (b : Binds K fd ["self"] []) (me : Meth K C "entries" f) (B : Bt mg) (T : PanT K mg C) :
    C8.Met P w K mg base 1 C "entries" (P1 (fun _ : Pan C => True) (fun d => d.names)) [] := by
  refine ⟨f, fd, _, [], T.cl, me, fk1 F scPanelEntries rfl (fun cdv A outer s H E G v d hr r _ => ?_), b, .nil⟩
  exact Bl.rv (Ev.listOf B (Ev.fld (panN T d) (Ev.v 0 rfl r)))
theorem c_panels_right (D : C8.Def K mg "_law_panels_right" sLawPanelsRight f fd) (b : Binds K fd ["purse", "names"] []) (B : Bt mg) (hR : mg "repr" = none) (O : OEq K C eqf) (F : FnOk P w K mg base C8.CX0 1 eqf fe ["self", "other"] (P2 (fun a b : Pan C => PanOk a ∧ PanOk b) (fun a b => decide (a = b)))) (hbe : Binds K fe ["self", "other"] [])
    (cD : C8.Cal P w K mg base 2 "_law_draw" PDraw []) (cS : C8.Cal P w K mg base 3 "_law_shuffled" (PShuf Str) []) (cW : C8.Cal P w K mg base 4 "_law_rows_of" PRows []) (mP : C8.Mak P w K mg base 5 "Panel" C (PI2 C panPre (fun es rs => (⟨sortS es, rs⟩ : Pan C))) [])
    (cT : C8.Cal P w K mg base 2 "panel_text" (P1 (fun p : Pan C => PanGood p) panelText) []) (cR : C8.Cal P w K mg base 9 "read_panel" (P1 (fun t => ∃ p : Pan C, PanGood p ∧ t = panelText p) (fun t => ((panelOfText C t).getD ⟨[], []⟩))) [])
    (cE : C8.Met P w K mg base 1 C "entries" (P1 (fun _ : Pan C => True) (fun d => d.names)) []) (cO : C8.Met P w K mg base 1 C "rows" (P1 (fun p : Pan C => Rok p.orders) (fun p => p.orders)) []) : CalG P w K mg base 10 "_law_panels_right" PRight := by
  refine CalG.of D b scLawPanelsRight (fun vs H Q E h => ?_) fun cdv A outer s H vs Q E noG hr h => ?_
  · obtain ⟨G, q, v, ns, b', rfl, _⟩ := h
    rfl
  · obtain ⟨G, q, v, ns, b', rfl, sG, pq, r, hn, hb, kk⟩ := h
    have h8 := hn.few
    have h1 := hn.pos
    have a6 : sizeLine = 16777216 := rfl
    refine ws_asgW 2 (we_call3 cW hr (we_v 0 rfl (we_v 1 rfl (we_op op_add (Ev.ap sG (Ev.int (i := 1)) fun G1 H1 v1 g1 r1 => ?_))))) scLawPanelsRight.nd
    cases r1
    refine we_call2 cD hr (we_v 0 rfl (Ev.ap g1.s (Ev.int (i := 5)) fun G2 H2 v2 g2 r2 => ?_))
    cases r2
    refine ⟨G2, q, 5, b', rfl, g2.s, (pq.gr g1).gr g2, by decide, by decide, by omega, fun G3 H3 z g3 p3 z0 z5 => ⟨1, z, rfl, rfl, ?_⟩⟩
    have g03 := (g1.trans g2).any.trans g3
    have ez : (1 + z : Int) = ((1 + z).toNat : Nat) := by rw [Int.toNat_of_nonneg (by omega)]
    refine ⟨G3, q, v, ns, (1 + z).toNat, _, by show [V.ref q, v, V.int (1 + z)] = [V.ref q, v, V.int (((1 + z).toNat : Nat) : Int)]; rw [← ez], g3.s, p3, rup g03.g r, hn, by omega, by omega, fun G4 H4 ow os g4 p4 hol hop ro => ?_⟩
    have hos : os ≠ [] := fun e => by rw [e] at hol; simp at hol; omega
    have hol8 : os.length ≤ 5 := by omega
    generalize hpe : (⟨ns, os⟩ : Pan C) = pn
    have hg : PanGood pn := by
      subst hpe
      exact ⟨hn.nok, (sortS_self hn.sorted).symm, hn.ne, hos, by show os.length < 64; omega, hop⟩
    have hpo : pn.orders = os := by subst hpe; rfl
    have hpn : pn.names = ns := by subst hpe; rfl
    have rowe : ∀ x ∈ os, Txt.join ", " x = lineOfNames x := fun x hx => by
      unfold lineOfNames
      rw [if_neg (hg.row (hpo ▸ hx)).2.1]
    refine ws_asg 3 (Same.refl G4) g4.s (d := panelText pn) (Ev.eq (Ev.join Ev.str (Ev.lcMap 4 (f := fun x => Txt.join ", " x) (EI.list (Ev.v 2 rfl ro)) (fun x hx G' v' s1 r' s H C cl fp => Ev.join Ev.str (Ev.v 4 rfl r') ?_) (by omega) scLawPanelsRight.nd (blkOk_by (N := nLawPanelsRight) (sc := C8.fnScope sLawPanelsRight) (by decide +kernel))) ?_) ?_) (fun G5 H5 tw g5 rt => ?_) scLawPanelsRight.nd
    · have hx1 := (hg.row (hpo ▸ hx)).1
      have h2 := sum_le (fun z : Str => z.length) 8 x fun z hz => (isName_at (hx1.name z hz)).2.1
      have h4 := hx1.2
      have h5 : (", " : Str).length = 2 := by decide +kernel
      have h6 : (x.map (fun z : Str => z.length)).sum ≤ x.length * 8 := h2
      rw [h5]
      omega
    · have h2 := sum_le (fun z : Str => z.length) 641 (os.map fun x => Txt.join ", " x) fun z hz => by
        obtain ⟨x, hx, rfl⟩ := List.mem_map.mp hz
        rw [rowe x hx]
        exact lon_len (hg.row (hpo ▸ hx)).1
      have h3 : ((os.map fun x => Txt.join ", " x).map (fun z : Str => z.length)).sum ≤ (os.map fun x => Txt.join ", " x).length * 641 := h2
      have h5 : ("; " : Str).length = 2 := by decide +kernel
      rw [List.length_map] at h3
      rw [h5, List.length_map]
      omega
    · unfold panelText
      rw [hpo]
      exact congrArg _ (List.map_congr_left fun x hx => rowe x hx)
    cases rt
    have hlen := pan_len hg
    have htok : PyData.strOk (panelText pn) = true := strOk_low fun c hc => by
      unfold panelText at hc
      rw [semi, join_at] at hc
      rcases mem_joinL hc with h1 | ⟨p, h1, h2⟩
      · simp at h1; omega
      · obtain ⟨z, hz, rfl⟩ := List.mem_map.mp h1
        obtain ⟨x, hx, rfl⟩ := List.mem_map.mp hz
        have := lon_signs (hg.row hx).1.name c h2
        omega
    have hcz : Sh.cost (panelText pn) ≤ sizeLine := by show 10 * (panelText pn).length + 2 ≤ _; omega
    have g05 := (g03.trans g4).trans g5.any
    have rtx : ∀ G : Hp, rp G (.str (panelText pn)) (panelText pn) := fun _ => rfl
    refine ws_asgW 5 (we_make2 mP hr (we_call2 cS hr (we_v 0 rfl (we_v 1 rfl ⟨G5, q, v, ns, _, rfl, g5.s, p4.gr g5, rup g05.g r, by omega, by omega, fun G6 H6 sw sl g6 p6 sp rs => we_v 2 rfl ?_⟩)))) scLawPanelsRight.nd
    have rw6 := rup (g5.g.trans g6.g) ro
    have ssl : sortS sl = ns := sortS_eq sp.symm hn.sorted
    refine ⟨G6, sl, os, g6.s, rs, rw6, ?_, fun G7 H7 pw g7 rp7 => ?_⟩
    · have hsl : Nok sl := ⟨decide_eq_true ⟨fun z hz => hn.names z (sp.mem_iff.mp hz), sp.nodup_iff.mpr hn.nodup⟩, by rw [sp.length_eq]; omega⟩
      refine ⟨hsl.lok, ?_, hpo ▸ hg.rok, decide_eq_true fun x hx => ?_, hos⟩
      · unfold areEntries
        rw [hsl.1, decide_eq_false (fun e => by rw [e] at sp; exact hn.ne (List.nil_perm.mp sp))]
        rfl
      · unfold isRow
        rw [(hg.row (hpo ▸ hx)).1.1, (hg.row (hpo ▸ hx)).2.2, hpn, ssl]
        simp
    · rw [ssl, hpe] at rp7
      have g07 := (g05.trans g6).trans g7.any
      have bk : (fun t => ((panelOfText C t).getD ⟨[], []⟩)) (panelText pn) = pn := by show (panelOfText C (panelText pn)).getD ⟨[], []⟩ = pn; rw [pan_back hg]; rfl
      refine ws_asg 6 (Same.refl G7) g7.s (Ev.eq (Ev.call1 cR hr (Ev.v 3 rfl (rtx _)) ⟨pn, hg, rfl⟩) bk) (fun G8 H8 aw g8 ra => ?_) scLawPanelsRight.nd
      have rp8 := rup g8.g rp7
      have ro8 : rp G8 ow pn.orders := hpo ▸ rup (g7.trans g8).g rw6
      have rn8 : rp G8 v pn.names := hpn ▸ rup (g07.g.trans g8.g) r
      have lyo := hg.rok.lay
      refine ws_ifF (Same.refl G8) g8.s (ET.eq (EW.t (EW.or (ET.neS (Ev.reprS noG hr.units hR (Ev.call1 cT hr (Ev.v 5 rfl rp8) hg) htok hcz) (Ev.reprS noG hr.units hR (Ev.v 3 rfl (rtx _)) htok hcz)) fun _ => EW.or (ET.neO (EqOk.of (pre := fun a : Pan C => PanOk a) O F hbe) (hr.mono (by decide)) (Ev.v 6 rfl ra) (Ev.v 5 rfl rp8) hg.ok hg.ok) fun _ => EW.or1 (ET.neD hr.units (Ev.meth0 cO hr (panM pn (by decide) (by decide) (by decide)) (Ev.v 6 rfl ra) hg.rok) (Ev.v 2 rfl ro8) lyo lyo))) (by simp)) fun G9 H9 g9 => ?_
      have p9 := (p6.gr g7).gr (g8.trans g9)
      refine ws_retW (Ev.ap g9.s (Ev.eq (Ev.and (Ev.eqD hr.units (Ev.meth0 cE hr (panM pn (by decide) (by decide) (by decide)) (Ev.v 6 rfl (rup g9.g ra)) trivial) (Ev.v 1 rfl (rup g9.g rn8)) hg.1.lok.lay hg.1.lok.lay) fun _ => Ev.one (Ev.eqD hr.units (Ev.meth0 cO hr (panM pn (by decide) (by decide) (by decide)) (Ev.v 5 rfl (rup g9.g rp8)) hg.rok) (Ev.v 2 rfl (rup g9.g ro8)) lyo lyo)) (show _ = true by simp)) fun G10 H10 u g10 r10 => ?_)
      cases r10
      exact kk G10 H10 ((g07.trans (g8.trans g9).any).trans g10.any) ((p9.gr g10).le (by omega))
end
end T91

namespace T91
open PySem L2 D1 Rp
/-! ### lines right -/
open SX
theorem cost_line {t : Ln} (h : LnGood t) : Sh.cost t ≤ 6200 := by
  show (10 * t.a.length + 2) + Sh.cost t.b + (10 * t.c.length + 2) + 8 ≤ 6200
  have h1 := (word_zok h.parts.1).2.1
  have h2 := (isName_at h.parts.2.2.2.2.1).2.1
  have h3 := cost_names h.parts.2.1.name h.parts.2.1.2
  omega
theorem cost_lines {l : List Ln} (h : ∀ t ∈ l, LnGood t) (hl : l.length ≤ 8) : Sh.cost l ≤ sizeLine := by
  have a6 : sizeLine = 16777216 := rfl
  show (l.map fun a => Sh.cost a + 2).sum + 2 ≤ _
  have := sum_le (fun a : Ln => Sh.cost a + 2) 6202 l fun z hz => by
    have := cost_line (h z hz)
    show Sh.cost z + 2 ≤ 6202
    omega
  omega
theorem isLine_congr {t : Ln} {es es' : List Str} (h : ∀ x, x ∈ es ↔ x ∈ es') : isLine t es = isLine t es' := by
  unfold isLine isField isLot
  simp only [h]
theorem bk_ok {C : Addr} {b : Bk C} (h : BkGood b) : PyData.strOk (bookText b) = true := strOk_low fun c hc => by
  unfold bookText at hc
  rw [semi, join_at] at hc
  rcases mem_joinL hc with h1 | ⟨p, h1, h2⟩
  · simp at h1; omega
  · obtain ⟨z, hz, rfl⟩ := List.mem_map.mp h1
    rcases List.mem_cons.mp hz with rfl | hz
    · have := lon_signs h.1.name c h2; omega
    · obtain ⟨t, ht, rfl⟩ := List.mem_map.mp hz
      have := tol_signs (h.2.2.2.2.2.2 t ht).1 c h2
      omega
section
variable {P : Program} {w : World} {K : PySem.W.Frag} {mg : Str → Option Value} {base : Heap} {f C eqf : Addr} {fd fe : FuncData}
theorem c_lines_right (D : C8.Def K mg "_law_lines_right" sLawLinesRight f fd) (b : Binds K fd ["purse", "names"] []) (B : Bt mg) (hR : mg "repr" = none) (O : OEq K C eqf) (F : FnOk P w K mg base C8.CX0 1 eqf fe ["self", "other"] (P2 (fun a b : Bk C => BkOk a ∧ BkOk b) (fun a b => decide (a = b)))) (hbe : Binds K fe ["self", "other"] [])
    (cD : C8.Cal P w K mg base 2 "_law_draw" PDraw []) (cS : C8.Cal P w K mg base 3 "_law_shuffled" (PShuf Str) []) (cS2 : C8.Cal P w K mg base 3 "_law_shuffled" (PShuf Ln) []) (cL : C8.Cal P w K mg base 4 "_law_line" PLine []) (cX : C8.Cal P w K mg base 1 "_law_line_text" (P1 LnGood textOfLine) []) (mB : C8.Mak P w K mg base 7 "Book" C (PI2 C bkPre (mkBk : List Str → List Ln → Bk C)) [])
    (cT : C8.Cal P w K mg base 5 "line_text" (P1 LnGood textOfLine) []) (cN : C8.Cal P w K mg base 7 "read_line" (P1F (fun t => ∃ l, LnGood l ∧ t = textOfLine l) (fun t => ((lineOf t).getD ⟨"", [], ""⟩))) [])
    (cBT : C8.Cal P w K mg base 3 "book_text" (P1 (fun d : Bk C => BkGood d) bookText) []) (cBR : C8.Cal P w K mg base 11 "read_book" (P1 (fun t => ∃ d : Bk C, BkGood d ∧ t = bookText d) (fun t => ((bookOfText C t).getD ⟨[], []⟩))) [])
    (cE : C8.Met P w K mg base 1 C "entries" (P1 (fun _ : Bk C => True) (fun d => d.names)) []) (cO : C8.Met P w K mg base 2 C "lines" (P1 (fun d : Bk C => LnsOk d.told) (fun d => d.told)) []) : CalG P w K mg base 12 "_law_lines_right" PRight := by
  refine CalG.of D b scLawLinesRight (fun vs H Q E h => ?_) fun cdv A outer s H vs Q E noG hr h => ?_
  · obtain ⟨G, q, v, ns, b', rfl, _⟩ := h
    rfl
  · obtain ⟨G, q, v, ns, b', rfl, sG, pq, r, hn, hb, kk⟩ := h
    have h8 := hn.few
    have h1 := hn.pos
    have a6 : sizeLine = 16777216 := rfl
    refine ws_setLcI (own := [("turn", 3)]) 2 (fun s H C cl fp => pg_name (i := 3) scLawLinesRight.nd rfl (by first | exact Or.inl rfl | exact Or.inr rfl) (by first | exact .inr rfl | exact .inl rfl))
      (tlc_R (own := [("turn", 3)]) (j := 3) (G1 := G) (fun n D i acc G' H' => n ≤ 4 ∧ GrM (Mq q) G H G' H' ∧ Purse q (b' + 1 + 20 * (i : Nat)) G' H' ∧ q ≠ D ∧ ∃ l : List Ln, Paired (rp G') acc l ∧ l.length = i ∧ ∀ z ∈ l, LnGood z ∧ isLine z ns = true) B.range
        (we_call2 cD hr (we_v 0 rfl (Ev.ap sG (Ev.int (i := 5)) fun G1 H1 v1 g1 r1 => ?_))) ?_ ?_ (fun _ => rfl)) scLawLinesRight.nd (blkOk_by (N := nLawLinesRight) (sc := C8.fnScope sLawLinesRight) (by decide +kernel))
    · cases r1
      refine ⟨G1, q, 5, b', rfl, g1.s, pq.gr g1, by decide, by decide, by omega, fun G2 H2 z g2 p2 z0 z4 => ?_⟩
      have g12 : GrM (Mq q) G H G2 H2 := g1.any.trans g2
      refine ⟨z.toNat, by rw [Int.toNat_of_nonneg z0], by omega, G2, g12.g, g12.s, g12.d, fun D hD => ?_⟩
      have qD : q ≠ D := fun e => by subst e; exact p2.some hD
      exact ⟨by omega, g12.off (g12.fresh hD) (g12.s.free hD), (p2.off qD).le (by omega), qD, [], .nil, rfl, fun z hz => by cases hz⟩
    · rintro n D i acc G2 H2 hi s12 s22 gD hacc hal hD1 ⟨hn3, gA, p2, qD, l, pr, hl, hsub⟩ G3 H3 g3 s0 H0 C cl fp
      refine we_call2 cL hr (we_v 0 rfl (we_v 1 rfl ⟨G3, q, v, ns, _, rfl, g3.s, p2.gr g3, rup (s12.trans g3.g) r, hn, by omega, fun G4 H4 w4 d g4 p4 hd1 hd2 rd => ?_⟩))
      have gD3 := g3.f D gD (by rw [hacc]; exact fun z => nomatch z)
      have hD3 := g3.hh _ _ hacc
      have hD4 : H4 D = some (.lst acc) := g4.h D _ (fun e => qD e.symm) hD3
      have gD4 := g4.f D gD3 (by rw [hD3]; exact fun z => nomatch z)
      have gB := (gA.trans g3.any).trans g4
      refine ⟨G4, g4.g, g4.s, gD4, hD4, hn3, gB.off hD1 gD4, (p4.off qD).le (by omega), qD, l ++ [d], r2_cat.PairedAppend (pmono pr fun _ _ => rup (g3.g.trans g4.g)) (.cons rd .nil), by rw [List.length_append, hl]; rfl, fun z hz => ?_⟩
      rcases List.mem_append.mp hz with hz | hz
      · exact hsub z hz
      · rw [List.mem_singleton.mp hz]; exact ⟨hd1, hd2⟩
    · rintro n D acc G2 H2 s12 s22 gD hacc hal hD1 ⟨hn3, gA, p2, qD, l, pr, hl, hsub⟩
      have hl4 : l.length ≤ 4 := by omega
      have hlg : ∀ t ∈ l, LnGood t := fun t ht => (hsub t ht).1
      have gC := gA.promote hD1 gD hacc
      have pC := p2.up (o := .lst acc) qD
      have sU : Same G2 (upd G2 D (.lst acc)) := same_new gD
      have rl : rp (upd G2 D (.lst acc)) (.ref D) l := ⟨D, acc, rfl, upd_same, pmono pr fun _ _ => rup sU⟩
      have ly : Da.lay l := fun t ht => (hlg t ht).ok.lay
      have hcl := cost_lines hlg (by omega)
      refine WS.cons (ps_par (i := 4) (j := 5) rfl scLawLinesRight.nd rfl rfl (by decide) rfl rfl (pa_cons pe_we (pa_cons pe_we pa_nil)) rfl) ?_
      refine Ev.ap (a := showD l) gC.s (Ev.reprS noG hr.units hR (Ev.v 2 rfl rl) ly hcl) fun G3 H3 kw g3 rk => ?_
      cases rk
      refine Ev.ap (a := ([] : List Ln)) g3.s Ev.nil fun G4 H4 pw0 g4 rp0 => ⟨_, pw0, rfl, ?_⟩
      have g34 := g3.trans g4
      have rl4 := rup g34.g rl
      have r4 : rp G4 v ns := rup (gC.g.trans g34.g) r
      have memS : ∀ {t : Ln}, t ∈ sortD l → LnGood t := fun ht => hlg _ (mem_sortD.mp ht)
      refine ws_for (fun i σ' G' H' => ∃ pv t6 t7, σ' = [some (.ref q), some v, some (.ref D), none, some (.str (showD l)), some pv, t6, t7, none, none] ∧ GrM (Mq q) G H G' H' ∧ Purse q (b' + 100) G' H' ∧ Same G4 G' ∧ rp G' pv (dedup ((sortD l).take i)))
        (G := G4) (Same.refl _) g4.s (EI.list (Ev.sortedD B hr.units (Ev.v 2 rfl rl4))) tgB1 (pg_name (i := 6) scLawLinesRight.nd rfl (by first | exact Or.inl rfl | exact Or.inr rfl))
        (fun G5 H5 g5 => ⟨pw0, none, none, rfl, gC.trans (g34.trans g5).any, (pC.gr (g34.trans g5)).le (by omega), g5.g, rup g5.g rp0⟩) ?_ ?_ PassesOwn.never
      · rintro i c σ1 G5 H5 hc s45 s55 ⟨pv, t6, t7, rfl, gF, p5, s45', rpv⟩ G6 H6 σ2 g6 ⟨lw, rc, rfl⟩
        have hcl' := memS (List.mem_of_getElem? hc)
        have hdm : ∀ x ∈ dedup ((sortD l).take i), LnGood x := fun x hx => memS (List.mem_of_mem_take (mem_dedup.mp hx))
        have hdl : (dedup ((sortD l).take i)).length ≤ 4 := by
          have e1 := dedup_length ((sortD l).take i)
          rw [List.length_take, sortD_length] at e1
          omega
        have rpv6 := rup g6.g rpv
        refine ws_asg 5 (Same.refl G6) g6.s (d := dedup ((sortD l).take (i + 1))) (Ev.eq (Ev.ite (ET.inD hr.units65 (Ev.v 6 rfl rc) (Ev.v 5 rfl rpv6) hcl'.ok.lay fun x hx => (hdm x hx).ok.lay) (fun _ => Ev.v 5 rfl rpv6) fun _ => Ev.cat (Ev.v 5 rfl rpv6) (Ev.lst (EL.cons (Ev.v 6 rfl rc) EL.nil) (show 1 ≤ 1000 by decide)) (by have : ([c] : List Ln).length = 1 := rfl; omega)) ?_) (fun G7 H7 pw g7 rpw => ?_) scLawLinesRight.nd
        · rw [dedup_snoc hc]
          unfold d1
          by_cases hm : c ∈ dedup ((sortD l).take i)
          · rw [decide_eq_true hm, if_pos rfl, if_pos hm]
          · rw [decide_eq_false hm, if_neg Bool.false_ne_true, if_neg hm]
        have rc7 := rup g7.g rc
        refine ws_asg 7 (Same.refl G7) g7.s (Ev.call1 cX hr (Ev.v 6 rfl rc7) hcl') (fun G8 H8 tw g8 rt => ?_) scLawLinesRight.nd
        cases rt
        have hlen := tol_len hcl'
        have hok : PyData.strOk (textOfLine c) = true := strOk_low fun x hx => by have := tol_signs hcl' x hx; omega
        have hcz : Sh.cost (textOfLine c) ≤ sizeLine := by show 10 * (textOfLine c).length + 2 ≤ _; omega
        have hcc : Sh.cost c ≤ sizeLine := Nat.le_trans (cost_line hcl') (by decide)
        have rtx : ∀ G : Hp, rp G (.str (textOfLine c)) (textOfLine c) := fun _ => rfl
        have rdn : (fun t => ((lineOf t).getD ⟨"", [], ""⟩)) (textOfLine c) = c := by show (lineOf (textOfLine c)).getD _ = c; rw [line_back hcl']; rfl
        have rc8 := rup g8.g rc7
        refine ws_ifF (Same.refl G8) g8.s (ET.eq (EW.t (EW.or (ET.neS (Ev.reprS noG hr.units hR (Ev.call1 cT hr (Ev.v 6 rfl rc8) hcl') hok hcz) (Ev.reprS noG hr.units hR (Ev.v 7 rfl (rtx _)) hok hcz)) fun _ => EW.or1 (ET.neS (Ev.reprS noG hr.units hR (Ev.eq (EvF.ev (EvF.call1 cN hr (Ev.v 7 rfl (rtx _)) ⟨c, hcl', rfl⟩)) rdn) hcl'.ok.lay hcc) (Ev.reprS noG hr.units hR (Ev.v 6 rfl rc8) hcl'.ok.lay hcc)))) (by simp)) fun G9 H9 g9 => ?_
        have g69 := ((g6.trans g7).trans g8).trans g9
        have p9 := p5.gr g69
        refine ws_exprW (WE.of (pe_bm PySem.F.plainAttrs_list PySem.F.slot_list_append PySem.F.type_list_append mt_append (pe_ix ix_tup pe_we pe_int (fun _ _ => rfl)) (pa_cons pe_str pa_nil)) ?_)
        refine EvF.ap (d := c) g9.s (EvF.eq (EvF.call1 cN hr (Ev.v 7 rfl (rtx _)) ⟨c, hcl', rfl⟩) rdn) fun G10 H10 w10 g10 r10 => ?_
        obtain ⟨tp, x, y, z, rfl, ht, rx, ry, rz⟩ := r10
        obtain ⟨p, xs, rfl, hp, pr10⟩ := ry
        obtain ⟨hp9, gp10⟩ := dif_at hp
        have ht10 := g10.s _ _ (dif_at ht).2
        have hp10 := g10.s _ _ gp10
        refine ⟨tp, [x, .ref p, z], 1, .ref p, rfl, rfl, SqT.of ht10, rfl, .inl ⟨rfl, _, SqL.of hp10⟩, p, xs, .str "more", rfl, rfl, hp10, ?_, ?_⟩
        · have := pr10.length
          have := hcl'.2
          omega
        have gd := (GrM.drop g10).off (o := .lst (xs ++ [.str "more"])) hp9 (g9.s.free hp9)
        have rc9 := rup g9.g rc8
        refine ws_ifF (Same.refl G9) gd.s (ET.eq (ET.neD hr.units (Ev.eq (EvF.ev (EvF.call1 cN hr (Ev.v 7 rfl (rtx _)) ⟨c, hcl', rfl⟩)) rdn) (Ev.v 6 rfl rc9) hcl'.ok.lay hcl'.ok.lay) (by simp)) fun G11 H11 g11 => ws_nil ?_
        have s611 := ((g7.trans g8).trans g9).g.trans g11.g
        exact ⟨G11, s611, g11.s, pw, some lw, some (.str (textOfLine c)), rfl, ((gF.trans g69.any).trans gd.any).trans g11.any, (p9.gr gd).gr g11, s45'.trans (g6.g.trans s611), rup ((g8.trans g9).g.trans g11.g) rpw⟩
      · rintro σ1 G5 H5 s45 s55 ⟨pv, t6, t7, rfl, gF, p5, s45', rpv⟩
        rw [List.take_length] at rpv
        have dmem : ∀ {t : Ln}, t ∈ dedup (sortD l) → t ∈ l := fun ht => mem_sortD.mp (mem_dedup.mp ht)
        have dlen : (dedup (sortD l)).length ≤ 4 := by
          have e1 := dedup_length (sortD l)
          rw [sortD_length] at e1
          omega
        generalize hbe' : (⟨ns, dedup (sortD l)⟩ : Bk C) = bk
        have hg : BkGood bk := by
          subst hbe'
          exact ⟨hn.nok, (sortS_self hn.sorted).symm, hn.ne, by show (dedup (sortD l)).length < 1000; omega, (sortD_self (List.Pairwise.sublist (dedup_sub (sortD l)) (sortD_sorted l))).symm, dedup_nodup _, fun t ht => hsub t (dmem ht)⟩
        have hbn : bk.names = ns := by subst hbe'; rfl
        have hbt : bk.told = dedup (sortD l) := by subst hbe'; rfl
        have r5 : rp G5 v ns := rup gF.g r
        have rl5 := rup s45' rl4
        refine ws_asgW 8 (we_make2 mB hr (we_call2 cS hr (we_v 0 rfl (we_v 1 rfl ⟨G5, q, v, ns, _, rfl, s55, p5, r5, by omega, by omega, fun G6 H6 sw sl g6 p6 sp rs => ?_⟩)))) scLawLinesRight.nd
        refine we_call2 cS2 hr (we_v 0 rfl (we_v 2 rfl ⟨G6, q, .ref D, l, _, rfl, g6.s, p6, rup g6.g rl5, by omega, by omega, fun G7 H7 sw2 sl2 g7 p7 sp2 rs2 => ?_⟩))
        have ssl : sortS sl = ns := sortS_eq sp.symm hn.sorted
        have ssl2 : sortD sl2 = sortD l := sortD_eq ((sortD_perm l).trans sp2.symm) (sortD_sorted l)
        have hsl : Nok sl := ⟨decide_eq_true ⟨fun z hz => hn.names z (sp.mem_iff.mp hz), sp.nodup_iff.mpr hn.nodup⟩, by rw [sp.length_eq]; omega⟩
        refine ⟨G7, sl, sl2, g7.s, rup g7.g rs, rs2, ⟨hsl.lok, ?_, ⟨fun t ht => (hlg t (sp2.mem_iff.mp ht)).ok, by rw [sp2.length_eq]; omega⟩, decide_eq_true fun t ht => by rw [isLine_congr fun x => sp.mem_iff]; exact (hsub t (sp2.mem_iff.mp ht)).2⟩, fun G8 H8 bw g8 rb => ?_⟩
        · unfold areEntries
          rw [hsl.1, decide_eq_false (fun e => by rw [e] at sp; exact hn.ne (List.nil_perm.mp sp))]
          rfl
        have emk : (mkBk sl sl2 : Bk C) = bk := by unfold mkBk; rw [ssl, ssl2, hbe']
        rw [emk] at rb
        have g68 := (g6.trans g7).trans g8.any
        have g08 := gF.trans g68
        have r8 : rp G8 v ns := rup g68.g r5
        have rpv8 := rup g68.g rpv
        have rl8 := rup g68.g rl5
        have p8 := p7.gr g8
        have hlen := bk_len hg
        have hok := bk_ok hg
        have hcz : Sh.cost (bookText bk) ≤ sizeLine := by show 10 * (bookText bk).length + 2 ≤ _; omega
        have e0 : Txt.join ", " ns = lineOfNames ns := by unfold lineOfNames; rw [if_neg hn.ne]
        have hlo := lon_len hn.nok
        refine ws_asg 7 (Same.refl G8) g8.s (d := bookText bk) (Ev.eq (Ev.join Ev.str (Ev.cat (Ev.lst (EL.cons (Ev.eq (Ev.join Ev.str (Ev.v 1 rfl r8) ?_) e0) EL.nil) (show 1 ≤ 1000 by decide)) (Ev.lcMap 6 (f := textOfLine) (EI.list (Ev.v 5 rfl rpv8)) (fun x hx G' v' s1 r' s H C cl fp => Ev.call1 cX hr (Ev.v 6 rfl r') (hlg x (dmem hx))) (by omega) scLawLinesRight.nd (blkOk_by (N := nLawLinesRight) (sc := C8.fnScope sLawLinesRight) (by decide +kernel))) ?_) ?_) ?_) (fun G9 H9 tw g9 rt => ?_) scLawLinesRight.nd
        · have h2 := sum_le (fun z : Str => z.length) 8 ns fun z hz => (isName_at (hn.names z hz)).2.1
          have h5 : (", " : Str).length = 2 := by decide +kernel
          have h6 : (ns.map (fun z : Str => z.length)).sum ≤ ns.length * 8 := h2
          rw [h5]
          omega
        · rw [List.length_map]
          have : ([lineOfNames ns] : List Str).length = 1 := rfl
          omega
        · have h2 := sum_le (fun z : Str => z.length) 659 ([lineOfNames ns] ++ (dedup (sortD l)).map textOfLine) fun z hz => by
            rcases List.mem_cons.mp hz with rfl | hz
            · omega
            · obtain ⟨t, ht, rfl⟩ := List.mem_map.mp hz
              exact tol_len (hlg t (dmem ht))
          have h3 : (([lineOfNames ns] ++ (dedup (sortD l)).map textOfLine).map (fun z : Str => z.length)).sum ≤ ([lineOfNames ns] ++ (dedup (sortD l)).map textOfLine).length * 659 := h2
          have h5 : ("; " : Str).length = 2 := by decide +kernel
          have h9 : ([lineOfNames ns] ++ (dedup (sortD l)).map textOfLine).length = 1 + (dedup (sortD l)).length := by rw [List.length_append, List.length_map]; rfl
          rw [h9] at h3
          rw [h5, h9]
          omega
        · unfold bookText
          rw [hbn, hbt]
        cases rt
        have rtx : ∀ G : Hp, rp G (.str (bookText bk)) (bookText bk) := fun _ => rfl
        have bkk : (fun t => ((bookOfText C t).getD ⟨[], []⟩)) (bookText bk) = bk := by show (bookOfText C (bookText bk)).getD ⟨[], []⟩ = bk; rw [bk_back hg]; rfl
        refine ws_asg 9 (Same.refl G9) g9.s (Ev.eq (Ev.call1 cBR hr (Ev.v 7 rfl (rtx _)) ⟨bk, hg, rfl⟩) bkk) (fun G10 H10 aw g10 ra => ?_) scLawLinesRight.nd
        have g910 := g9.trans g10
        have rb10 := rup g910.g rb
        have rn10 : rp G10 v bk.names := hbn ▸ rup g910.g r8
        have rpv10 := rup g910.g rpv8
        have lyd : Da.lay (dedup (sortD l)) := fun t ht => ly t (dmem ht)
        have hcd := cost_lines (l := dedup (sortD l)) (fun t ht => hlg t (dmem ht)) (by omega)
        refine ws_ifF (Same.refl G10) g10.s (ET.eq (EW.t (EW.or (ET.neS (Ev.reprS noG hr.units hR (Ev.call1 cBT hr (Ev.v 8 rfl rb10) hg) hok hcz) (Ev.reprS noG hr.units hR (Ev.v 7 rfl (rtx _)) hok hcz)) fun _ => EW.or (ET.neO (EqOk.of (pre := fun a : Bk C => BkOk a) O F hbe) (hr.mono (by decide)) (Ev.v 9 rfl ra) (Ev.v 8 rfl rb10) hg.ok hg.ok) fun _ => EW.or1 (ET.neD hr.units (Ev.meth0 cE hr (bkM bk (by decide) (by decide)) (Ev.v 9 rfl ra) trivial) (Ev.v 1 rfl rn10) hg.1.lok.lay hg.1.lok.lay))) (by simp)) fun G11 H11 g11 => ?_
        have rl11 := rup (g910.trans g11).g rl8
        have rks : ∀ G : Hp, rp G (.str (showD l)) (showD l) := fun _ => rfl
        refine ws_retW (Ev.ap g11.s (Ev.eq (Ev.and (Ev.eqS (Ev.reprS noG hr.units hR (Ev.eq (Ev.meth0 cO hr (bkM bk (by decide) (by decide)) (Ev.v 9 rfl (rup g11.g ra)) hg.lns) hbt) lyd hcd) (Ev.reprS noG hr.units hR (Ev.v 5 rfl (rup g11.g rpv10)) lyd hcd)) fun _ => Ev.one (Ev.eqS (Ev.reprS noG hr.units hR (Ev.v 2 rfl rl11) ly hcl) (Ev.v 4 rfl (rks _)))) (show _ = true by simp)) fun G12 H12 u g12 r12 => ?_)
        cases r12
        exact kk G12 H12 ((g08.trans (g910.trans g11).any).trans g12.any) (((p8.gr (g910.trans g11)).gr g12).le (by omega))
end
end T91

namespace T91
open PySem L2 D1 Rp
/-! ### rounds right -/
open SX
/-- what of G2 is the list at p and its tuples, beside G0 -/
def spine (G0 H0 G2 : Hp) (p : Addr) : Hp := fun b => match H0 b with
  | some _ => G0 b
  | none => match G2 b with
    | some (.tup xs) => some (.tup xs)
    | some (.lst xs) => if b = p then some (.lst xs) else none
    | _ => none
theorem spine_lst {G0 H0 G2 : Hp} {p : Addr} {xs : List V} (h : H0 p = none) (e : G2 p = some (.lst xs)) : spine G0 H0 G2 p p = some (.lst xs) := by
  unfold spine
  rw [h, e]
  exact if_pos rfl
theorem spine_tup {G0 H0 G2 : Hp} {p b : Addr} {xs : List V} (h : H0 b = none) (e : G2 b = some (.tup xs)) : spine G0 H0 G2 p b = some (.tup xs) := by
  unfold spine
  rw [h, e]
theorem spine_no {G0 H0 G2 : Hp} {p b : Addr} {xs : List V} (h : H0 b = none) (e : G2 b = some (.lst xs)) (hb : b ≠ p) : spine G0 H0 G2 p b = none := by
  unfold spine
  rw [h, e]
  exact if_neg hb
theorem spine_up {G0 H0 G2 : Hp} {p : Addr} (s : Same G0 H0) : Same G0 (spine G0 H0 G2 p) := fun b o e => by
  unfold spine
  rw [s _ _ e]
  exact e
theorem spine_in {G0 H0 G2 H2 : Hp} {p : Addr} (g : Gr G0 H0 G2 H2) : Same (spine G0 H0 G2 p) H2 := fun b o e => by
  unfold spine at e
  cases h : H0 b with
  | some u => rw [h] at e; exact g.s _ _ (g.g _ _ e)
  | none =>
    rw [h] at e
    cases h2 : G2 b with
    | none => rw [h2] at e; cases e
    | some u =>
      rw [h2] at e
      cases u with
      | tup xs => cases e; exact g.s _ _ h2
      | lst xs =>
        by_cases hb : b = p
        · have e' : some (HO.lst xs) = some o := (if_pos hb).symm.trans e
          cases e'
          exact g.s _ _ h2
        · have e' : (none : Option HO) = some o := (if_neg hb).symm.trans e
          cases e'
      | _ => cases e
/-- a list that the law may spoil -/
def Loose (G H0 H : Hp) (a : Addr) : Prop := H0 a = none ∧ G a = none ∧ ∃ ys, H a = some (.lst ys) ∧ ys.length < 1000
theorem opened {G0 H0 G2 H2 : Hp} {p : Addr} {xs0 : List V} (g : Gr G0 H0 G2 H2) (hp0 : H0 p = none) (hp : G2 p = some (.lst xs0)) (refs : ∀ x ∈ xs0, ∃ t, x = V.ref t) (ne : xs0 ≠ []) : ∀ {xs : List V} {l : List Rd}, (∀ t ∈ l, t.1.length < 1000 ∧ t.2.length < 1000) → Paired (rp (dif G2 H0)) xs l → ∃ as : List (Adr × Adr), Paired (rp (spine G0 H0 G2 p)) xs as ∧ ∀ ab ∈ as, Loose (spine G0 H0 G2 p) H0 H2 ab.1.p ∧ Loose (spine G0 H0 G2 p) H0 H2 ab.2.p
  | _, _, _, .nil => ⟨[], .nil, fun ab h => by cases h⟩
  | _, t :: l, hl, .cons r rest => by
    obtain ⟨as, h1, h2⟩ := opened g hp0 hp refs ne (fun u hu => hl u (List.mem_cons_of_mem _ hu)) rest
    obtain ⟨tp, x, y, rfl, ht, rx, ry⟩ := r
    have inner : ∀ {v : V} {ss : List Str}, ss.length < 1000 → rp (dif G2 H0) v ss → ∃ a, v = .ref a ∧ Loose (spine G0 H0 G2 p) H0 H2 a := fun {v ss} hss rv => by
      obtain ⟨a, ys, rfl, ha, pr⟩ := rv
      obtain ⟨ha0, ha2⟩ := dif_at ha
      refine ⟨a, rfl, ha0, spine_no ha0 ha2 fun e => ?_, ys, g.s _ _ ha2, by rw [pr.length]; exact hss⟩
      subst e
      rw [hp] at ha2
      cases ha2
      have es := strs_of pr
      cases xs0 with
      | nil => exact ne rfl
      | cons z zs =>
        obtain ⟨u, hu⟩ := refs z List.mem_cons_self
        cases ss with
        | nil => cases es
        | cons s ss =>
          have e1 : z = V.str s := (List.cons.inj es).1
          rw [e1] at hu
          cases hu
    obtain ⟨a, rfl, ka⟩ := inner (hl t List.mem_cons_self).1 rx
    obtain ⟨b, rfl, kb⟩ := inner (hl t List.mem_cons_self).2 ry
    obtain ⟨t0, t2⟩ := dif_at ht
    refine ⟨(⟨a⟩, ⟨b⟩) :: as, .cons ⟨tp, .ref a, .ref b, rfl, spine_tup t0 t2, rfl, rfl⟩ h1, fun ab hab => ?_⟩
    rcases List.mem_cons.mp hab with e | hab
    · subst e; exact ⟨ka, kb⟩
    · exact h2 ab hab
theorem rounds_open {G0 H0 G2 H2 : Hp} {w : V} {l : List Rd} (s0 : Same G0 H0) (g : Gr G0 H0 G2 H2) (hl : ∀ t ∈ l, t.1.length < 1000 ∧ t.2.length < 1000) (hn : l.length < 1000) (r : rp (dif G2 H0) w l) :
    ∃ (p : Addr) (xs : List V) (as : List (Adr × Adr)) (G' : Hp), w = .ref p ∧ H0 p = none ∧ H2 p = some (.lst xs) ∧ xs.length < 1000 ∧ Same G0 G' ∧ Same G' H2 ∧ rp G' w as ∧ ∀ ab ∈ as, Loose G' H0 H2 ab.1.p ∧ Loose G' H0 H2 ab.2.p := by
  obtain ⟨p, xs, rfl, hp, pr⟩ := r
  obtain ⟨hp0, hp2⟩ := dif_at hp
  have hlen : xs.length < 1000 := by rw [pr.length]; exact hn
  have refs : ∀ {ys : List V} {m : List Rd}, Paired (rp (dif G2 H0)) ys m → ∀ x ∈ ys, ∃ t, x = V.ref t := by
    intro ys m pr
    induction m generalizing ys with
    | nil => cases pr; intro x hx; cases hx
    | cons t m ih =>
      cases pr with
      | cons r rest =>
        intro x hx
        rcases List.mem_cons.mp hx with e | hx
        · obtain ⟨tp, a, b, e2, _⟩ := r
          exact ⟨tp, e.trans e2⟩
        · exact ih rest x hx
  by_cases ne : xs = []
  · subst ne
    exact ⟨p, [], [], spine G0 H0 G2 p, rfl, hp0, g.s _ _ hp2, hlen, spine_up s0, spine_in g, ⟨p, [], rfl, spine_lst hp0 hp2, .nil⟩, fun ab h => by cases h⟩
  · obtain ⟨as, h1, h2⟩ := opened g hp0 hp2 (refs pr) ne hl pr
    exact ⟨p, xs, as, spine G0 H0 G2 p, rfl, hp0, g.s _ _ hp2, hlen, spine_up s0, spine_in g, ⟨p, xs, rfl, spine_lst hp0 hp2, h1⟩, h2⟩
end T91

namespace T91
open PySem L2 D1 Rp
/-! ### rounds right, the walk -/
open SX
theorem cost_rounds {l : List Rd} (h : RsGood l) (hl : l.length ≤ 8) : Sh.cost l ≤ sizeLine := by
  have a6 : sizeLine = 16777216 := rfl
  show (l.map fun a => Sh.cost a + 2).sum + 2 ≤ _
  have := sum_le (fun a : Rd => Sh.cost a + 2) 12010 l fun z hz => by
    have hp := (h.1 z hz).parts
    have h1 := cost_names hp.1.name hp.1.2
    have h2 := cost_names hp.2.1.name hp.2.1.2
    show Sh.cost z.1 + Sh.cost z.2 + 6 + 2 ≤ 12010
    omega
  omega
section
variable {P : Program} {w : World} {K : PySem.W.Frag} {mg : Str → Option Value} {base : Heap} {f C : Addr} {fd : FuncData}
theorem c_rounds_right (D : C8.Def K mg "_law_rounds_right" sLawRoundsRight f fd) (b : Binds K fd ["purse", "names"] []) (B : Bt mg) (hR : mg "repr" = none) (cD : C8.Cal P w K mg base 2 "_law_draw" PDraw []) (cW : C8.Cal P w K mg base 4 "_law_rounds_of" PRounds []) (cT : C8.Cal P w K mg base 5 "rounds_text" (P1 RsGood roundsText) [])
    (cN : C8.Cal P w K mg base 8 "read_rounds" (P1F (fun t => ∃ l, RsGood l ∧ t = roundsText l) (fun t => ((roundsOf t).getD []))) []) : CalG P w K mg base 9 "_law_rounds_right" PRight := by
  refine CalG.of D b scLawRoundsRight (fun vs H Q E h => ?_) fun cdv A outer s H vs Q E noG hr h => ?_
  · obtain ⟨G, q, v, ns, b', rfl, _⟩ := h
    rfl
  · obtain ⟨G, q, v, ns, b', rfl, sG, pq, r, hn, hb, kk⟩ := h
    have a6 : sizeLine = 16777216 := rfl
    refine ws_asgW 2 (we_call3 cW hr (we_v 0 rfl (we_v 1 rfl (we_call2 cD hr (we_v 0 rfl (Ev.ap sG (Ev.int (i := 5)) fun G1 H1 v1 g1 r1 => ?_)))))) scLawRoundsRight.nd
    cases r1
    refine ⟨G1, q, 5, b', rfl, g1.s, pq.gr g1, by decide, by decide, by omega, fun G2 H2 z g2 p2 z0 z5 => ?_⟩
    have g02 := g1.any.trans g2
    have ez : (z : Int) = (z.toNat : Nat) := by rw [Int.toNat_of_nonneg z0]
    refine ⟨G2, q, v, ns, z.toNat, _, by rw [← ez], g2.s, p2, rup g02.g r, hn, by omega, by omega, fun G3 H3 sw l g3 p3 hll hlg rl => ?_⟩
    have hl5 : l.length ≤ 5 := by omega
    have hg : RsGood l := ⟨hlg, by omega⟩
    have ly : Da.lay l := fun t ht => (hlg t ht).ok.lay
    have hcl := cost_rounds hg (by omega)
    have g03 := g02.trans g3
    refine WS.cons (ps_par (i := 3) (j := 4) rfl scLawRoundsRight.nd rfl rfl (by decide) rfl rfl (pa_cons pe_we (pa_cons pe_we pa_nil)) rfl) ?_
    refine Ev.ap (a := showD l) g3.s (Ev.reprS noG hr.units hR (Ev.v 2 rfl rl) ly hcl) fun G4 H4 kw g4 rk => ?_
    cases rk
    refine we_lstM (xs := ([] : List Str)) g4.s EL.nil (fun G5 H5 vs fo g5 hfo pr => ?_) (show 0 ≤ 1000 by decide)
    cases pr
    refine ⟨.str (showD l), .ref fo, rfl, ?_⟩
    have g45 := g4.trans g5
    have p5 := p3.gr g45
    have qfo : q ≠ fo := fun e => by subst e; exact p5.some hfo
    have g05 := g03.trans g45.any
    have hfo0 : H fo = none := g05.fresh hfo
    have gfo5 := g5.s.free hfo
    have g05' := g05.off (o := .lst []) hfo0 gfo5
    have rl5 := rup g45.g rl
    have joins : ∀ ss : List Str, Nok ss → ss ≠ [] → Txt.join ", " ss = lineOfNames ss ∧ (ss.map (·.length)).sum + ss.length * (", " : Str).length ≤ 16777216 := fun ss h1 h2 => by
      refine ⟨by unfold lineOfNames; rw [if_neg h2], ?_⟩
      have e2 := sum_le (fun z : Str => z.length) 8 ss fun z hz => (isName_at (h1.name z hz)).2.1
      have e4 := h1.2
      have e5 : (", " : Str).length = 2 := by decide +kernel
      have e6 : (ss.map (fun z : Str => z.length)).sum ≤ ss.length * 8 := e2
      rw [e5]
      omega
    have ne1 : ∀ t ∈ l, t.1 ≠ [] := fun t ht e => by
      have hp := (hlg t ht).parts
      have h1 := (hlg t ht).1
      unfold isRound at h1
      simp only [Bool.and_eq_true, decide_eq_true_eq] at h1
      cases e2 : t.2 with
      | nil => exact hp.2.2 e2
      | cons x xs =>
        have := h1.2.2.2 x (by rw [e2]; exact List.mem_cons_self)
        rw [e] at this
        cases this
    refine ws_for (fun i σ' G' H' => ∃ acc t5 t6, σ' = [some (.ref q), some v, some sw, some (.str (showD l)), some (.ref fo), t5, t6, none, none] ∧ GrM (Mq q) G H G' H' ∧ Purse q (b' + 161) G' H' ∧ Same G5 G' ∧ G' fo = none ∧ H' fo = some (.lst acc) ∧ Paired (rp G') acc ((l.take i).map roundText))
      (G := G5) (Same.refl _) g05'.s (EI.list (Ev.v 2 rfl rl5)) (tgB2 (K := K)) (pg_two (i := 5) (j := 6) rfl scLawRoundsRight.nd rfl rfl (by first | exact Or.inl rfl | exact Or.inr rfl) (by first | exact Or.inl rfl | exact Or.inr rfl) (by first | exact .inl rfl | exact .inr rfl) (by first | exact .inl rfl | exact .inr rfl))
      (fun G6 H6 g6 => ⟨[], none, none, rfl, g05'.trans g6.any, ((p5.off qfo).gr g6).le (by omega), g6.g, g6.f fo gfo5 (by rw [upd_same]; exact fun z => nomatch z), g6.hh _ _ upd_same, .nil⟩) ?_ ?_ PassesOwn.never
    · rintro i c σ1 G6 H6 hc s56 s66 ⟨acc, t5, t6, rfl, gF, p6, s56', nf, hf, pr⟩ G7 H7 σ2 g7 ⟨fw, cw, r1, r2, rfl⟩
      have hct := List.mem_of_getElem? hc
      have hcg := hlg c hct
      have hi : i < l.length := (List.getElem?_eq_some_iff.mp hc).1
      have nf7 := g7.f fo nf (by rw [hf]; exact fun z => nomatch z)
      have hf7 := g7.hh _ _ hf
      obtain ⟨j1, j1'⟩ := joins c.1 hcg.parts.1 (ne1 c hct)
      obtain ⟨j2, j2'⟩ := joins c.2 hcg.parts.2.1 hcg.parts.2.2
      have b1 := lon_len hcg.parts.1
      have b2 := lon_len hcg.parts.2.1
      have b3 : (": " : Str).length = 2 := by decide +kernel
      have b4 := len_cat (lineOfNames c.1) ": "
      refine ws_exprW (WE.of (pe_bm PySem.F.plainAttrs_list PySem.F.slot_list_append PySem.F.type_list_append mt_append (pv 4) (pa_cons pe_we pa_nil)) ?_)
      refine ⟨.ref fo, rfl, .inl ⟨rfl, _, SqL.of hf7⟩, ?_⟩
      refine Ev.ap (a := roundText c) g7.s (Ev.addS (Ev.addS (Ev.eq (Ev.join Ev.str (Ev.v 5 rfl r1) j1') j1) Ev.str (by omega)) (Ev.eq (Ev.join Ev.str (Ev.v 6 rfl r2) j2') j2) (by omega)) fun G8 H8 w8 g8 r8 => ?_
      have nf8 := g8.f fo nf7 (by rw [hf7]; exact fun z => nomatch z)
      have hf8 := g8.hh _ _ hf7
      have hal : acc.length ≤ 5 := by
        have := pr.length
        rw [List.length_map, List.length_take] at this
        omega
      refine ⟨fo, acc, w8, rfl, rfl, hf8, by omega, ?_⟩
      have g78 := g7.trans g8
      refine ws_nil ⟨G8, g8.g, ((gF.trans g78.any).off hfo0 nf8).s, _, some fw, some cw, rfl, (gF.trans g78.any).off hfo0 nf8, (p6.gr g78).off qfo, s56'.trans g78.g, nf8, upd_same, ?_⟩
      rw [take_snoc hc, List.map_append]
      exact r2_cat.PairedAppend (pmono pr fun _ _ => rup g78.g) (.cons r8 .nil)
    · rintro σ1 G6 H6 s56 s66 ⟨acc, t5, t6, rfl, gF, p6, s56', nf, hf, pr⟩
      rw [List.take_length] at pr
      have gP := gF.promote hfo0 nf hf
      have pP := p6.up (o := .lst acc) qfo
      have sU : Same G6 (upd G6 fo (.lst acc)) := same_new nf
      have rf : rp (upd G6 fo (.lst acc)) (.ref fo) (l.map roundText) := ⟨fo, acc, rfl, upd_same, pmono pr fun _ _ => rup sU⟩
      have lyt : Da.lay (l.map roundText) := fun z hz => by
        obtain ⟨t, ht, rfl⟩ := List.mem_map.mp hz
        exact strOk_low fun c hc => by have := rt_signs (hlg t ht) c hc; omega
      refine ws_asg 7 (Same.refl _) gP.s (d := roundsText l) (Ev.eq (Ev.ite (ET.neD hr.units (Ev.v 4 rfl rf) Ev.nil lyt lay_nil) (fun _ => Ev.join Ev.str (Ev.v 4 rfl rf) ?_) fun _ => Ev.str) ?_) (fun G7 H7 tw g7 rt => ?_) scLawRoundsRight.nd
      · have h2 := sum_le (fun z : Str => z.length) 1284 (l.map roundText) fun z hz => by
          obtain ⟨t, ht, rfl⟩ := List.mem_map.mp hz
          exact rt_len (hlg t ht)
        have h3 : ((l.map roundText).map (fun z : Str => z.length)).sum ≤ (l.map roundText).length * 1284 := h2
        have h5 : ("; " : Str).length = 2 := by decide +kernel
        rw [List.length_map] at h3
        rw [h5, List.length_map]
        omega
      · unfold roundsText
        by_cases e : l = []
        · subst e; rfl
        · rw [if_neg e, decide_eq_false (by simpa using e)]; rfl
      cases rt
      have rl7 := rup (s56'.trans (sU.trans g7.g)) rl5
      have hlen := rs_len hg
      have hok := rs_ok hg
      have hcz : Sh.cost (roundsText l) ≤ sizeLine := by show 10 * (roundsText l).length + 2 ≤ _; omega
      have rtx : ∀ G : Hp, rp G (.str (roundsText l)) (roundsText l) := fun _ => rfl
      have rks : ∀ G : Hp, rp G (.str (showD l)) (showD l) := fun _ => rfl
      have rdn : (fun t => ((roundsOf t).getD [])) (roundsText l) = l := by show (roundsOf (roundsText l)).getD [] = l; rw [rounds_back hg]; rfl
      refine ws_ifF (Same.refl G7) g7.s (ET.eq (EW.t (EW.or (ET.neS (Ev.reprS noG hr.units hR (Ev.call1 cT hr (Ev.v 2 rfl rl7) hg) hok hcz) (Ev.reprS noG hr.units hR (Ev.v 7 rfl (rtx _)) hok hcz)) fun _ => EW.or (ET.neS (Ev.reprS noG hr.units hR (Ev.eq (EvF.ev (EvF.call1 cN hr (Ev.v 7 rfl (rtx _)) ⟨l, hg, rfl⟩)) rdn) ly hcl) (Ev.v 3 rfl (rks _))) fun _ => EW.or1 (ET.neS (Ev.reprS noG hr.units hR (Ev.v 2 rfl rl7) ly hcl) (Ev.v 3 rfl (rks _))))) (by simp)) fun G8 H8 g8 => ?_
      have p8 := (pP.gr g7).gr g8
      have g08 := gP.trans (g7.trans g8).any
      refine ws_asgW 8 (EvF.ap (d := l) g8.s (EvF.eq (EvF.call1 cN hr (Ev.v 7 rfl (rtx _)) ⟨l, hg, rfl⟩) rdn) fun G9 H9 dw g9 r9 => ?_) scLawRoundsRight.nd
      obtain ⟨p, xs, as, Gs, rfl, hp8, hp9, hxl, sGs, sGs9, ra, loose⟩ := rounds_open g8.s g9 (fun t ht => ⟨Nat.lt_trans (hlg t ht).2.1 (by decide), Nat.lt_trans (hlg t ht).2.2 (by decide)⟩) (by omega) r9
      have gd9 : GrM (Mq q) G H G8 H9 := g08.trans (GrM.drop g9).any
      have p9 : Purse q (b' + 161) G8 H9 := p8.gr (GrM.drop g9)
      have s8s : Same G8 Gs := sGs
      obtain ⟨p1, xs1, ep, hps, prs⟩ := id ra
      cases ep
      have exs : xs1 = xs := by
        have h1 := sGs9 _ _ hps
        rw [hp9] at h1
        cases h1
        rfl
      subst exs
      have side : ∀ {G1 H1 G2 H2 : Hp}, Gr G1 H1 G2 H2 → Same G8 G1 → Gr G8 H1 G8 H2 := fun g s => ⟨Same.refl _, g.h, s.trans (g.g.trans g.s), fun _ e _ => e, g.d⟩
      have out : ∀ {a : Addr}, H8 a = none → H a = none ∧ G8 a = none ∧ a ≠ q := fun {a} h => ⟨g08.fresh h, g8.s.free h, fun e => by subst e; exact p8.some h⟩
      refine ws_for (fun i σ' G' H' => ∃ t5 t6, σ' = [some (.ref q), some v, some sw, some (.str (showD l)), some (.ref fo), t5, t6, some (.str (roundsText l)), some (.ref p)] ∧ Same Gs G' ∧ GrM (Mq q) G H G8 H' ∧ Purse q (b' + 161) G8 H' ∧ ∀ a, (∃ ab ∈ as, a = ab.1.p ∨ a = ab.2.p) → H8 a = none ∧ G' a = none ∧ ∃ ys, H' a = some (.lst ys) ∧ ys.length < 1000 + i)
        (G := Gs) (Same.refl _) sGs9 (EI.list (Ev.v 8 rfl ra)) (tgB2 (K := K)) (pg_two (i := 5) (j := 6) rfl scLawRoundsRight.nd rfl rfl (by first | exact Or.inl rfl | exact Or.inr rfl) (by first | exact Or.inl rfl | exact Or.inr rfl) (by first | exact .inl rfl | exact .inr rfl) (by first | exact .inl rfl | exact .inr rfl))
        (fun G10 H10 g10 => ⟨_, _, rfl, g10.g, gd9.trans (side g10 s8s).any, p9.gr (side g10 s8s), fun a ⟨ab, hab, ha⟩ => by
          have hL : Loose Gs H8 H9 a := by
            rcases ha with e | e
            · rw [e]; exact (loose ab hab).1
            · rw [e]; exact (loose ab hab).2
          obtain ⟨l1, l2, ys, l3, l4⟩ := hL
          exact ⟨l1, g10.f a l2 (by rw [l3]; exact fun z => nomatch z), ys, g10.hh _ _ l3, by omega⟩⟩) ?_ ?_ PassesOwn.never
      · rintro i c σ1 G10 H10 hc s10 s1010 ⟨t5', t6', rfl, sG10, gA, pA, LL⟩ G11 H11 σ2 g11 ⟨fw, cw, r1, r2, rfl⟩
        cases r1
        cases r2
        have hcm := List.mem_of_getElem? hc
        have s811 : Same G8 G10 := s8s.trans sG10
        have gB := gA.trans (side g11 s811).any
        have pB := pA.gr (side g11 s811)
        have LL11 : ∀ a, (∃ ab ∈ as, a = ab.1.p ∨ a = ab.2.p) → H8 a = none ∧ G11 a = none ∧ ∃ ys, H11 a = some (.lst ys) ∧ ys.length < 1000 + i := fun a ha => by
          obtain ⟨l1, l2, ys, l3, l4⟩ := LL a ha
          exact ⟨l1, g11.f a l2 (by rw [l3]; exact fun z => nomatch z), ys, g11.hh _ _ l3, l4⟩
        have hias : i < as.length := (List.getElem?_eq_some_iff.mp hc).1
        have has : as.length < 1000 := by rw [← prs.length]; exact hxl
        obtain ⟨a1, a2, ys, a3, a4⟩ := LL11 c.1.p ⟨c, hcm, .inl rfl⟩
        refine ws_exprW (WE.of (pe_bm PySem.F.plainAttrs_list PySem.F.slot_list_append PySem.F.type_list_append mt_append (pv 5) (pa_cons pe_str pa_nil)) ?_)
        refine ⟨.ref c.1.p, rfl, .inl ⟨rfl, _, SqL.of a3⟩, c.1.p, ys, .str "more", rfl, rfl, a3, by omega, ?_⟩
        have gC := gB.off (o := .lst (ys ++ [.str "more"])) (out a1).1 (out a1).2.1
        have pC := pB.off (o := .lst (ys ++ [.str "more"])) (out a1).2.2.symm
        have step : ∀ (H12 : Hp) (e : Addr) (zs : List V) (n : Nat), zs.length < n → (∀ a, (∃ ab ∈ as, a = ab.1.p ∨ a = ab.2.p) → H8 a = none ∧ G11 a = none ∧ ∃ ys, H12 a = some (.lst ys) ∧ ys.length < n) → ∀ a, (∃ ab ∈ as, a = ab.1.p ∨ a = ab.2.p) → H8 a = none ∧ G11 a = none ∧ ∃ ys, upd H12 e (.lst zs) a = some (.lst ys) ∧ ys.length < n := fun H12 e zs n hz hh a ha => by
          obtain ⟨l1, l2, ys, l3, l4⟩ := hh a ha
          by_cases hae : a = e
          · subst hae; exact ⟨l1, l2, zs, upd_same, hz⟩
          · exact ⟨l1, l2, ys, by rw [upd_ne hae]; exact l3, l4⟩
        have LLC := step H11 c.1.p (ys ++ [.str "more"]) (1000 + (i + 1)) (by rw [List.length_append]; show ys.length + 1 < _; omega) fun a ha => by
          obtain ⟨l1, l2, ys, l3, l4⟩ := LL11 a ha
          exact ⟨l1, l2, ys, l3, by omega⟩
        have sC : Same G11 (upd H11 c.1.p (.lst (ys ++ [.str "more"]))) := fun b o e => by rw [upd_ne (ne_of_none e a2)]; exact g11.s b o e
        obtain ⟨b1, b2, zs, b3, b4⟩ := LLC c.2.p ⟨c, hcm, .inr rfl⟩
        refine ws_exprW (WE.of (pe_bm0 PySem.F.plainAttrs_list PySem.F.slot_list_clear PySem.F.type_list_clear mt_clear (pv 6)) ?_)
        refine ⟨.ref c.2.p, rfl, .inl ⟨rfl, _, SqL.of b3⟩, c.2.p, zs, rfl, rfl, b3, ?_⟩
        have gE := gC.off (o := .lst []) (out b1).1 (out b1).2.1
        have pE := pC.off (o := .lst []) (out b1).2.2.symm
        have sE : Same G11 (upd (upd H11 c.1.p (.lst (ys ++ [.str "more"]))) c.2.p (.lst [])) := fun b o e => by rw [upd_ne (ne_of_none e b2)]; exact sC b o e
        exact ws_nil ⟨G11, Same.refl _, sE, _, _, rfl, sG10.trans g11.g, gE, pE, step _ c.2.p [] (1000 + (i + 1)) (by show 0 < _; omega) LLC⟩
      · rintro σ1 G10 H10 s10 s1010 ⟨t5', t6', rfl, sG10, gA, pA, LL⟩
        have hp10 : H10 p = some (.lst xs1) := s1010 _ _ (sG10 _ _ hps)
        refine ws_exprW (WE.of (pe_bm PySem.F.plainAttrs_list PySem.F.slot_list_append PySem.F.type_list_append mt_append (pv 8) (pa_cons pe_str pa_nil)) ?_)
        refine ⟨.ref p, rfl, .inl ⟨rfl, _, SqL.of hp10⟩, p, xs1, .str "more", rfl, rfl, hp10, by omega, ?_⟩
        have gE := gA.off (o := .lst (xs1 ++ [.str "more"])) (out hp8).1 (out hp8).2.1
        have pE := pA.off (o := .lst (xs1 ++ [.str "more"])) (out hp8).2.2.symm
        refine ws_retW (Ev.ap gE.s (Ev.eq (Ev.eqS (Ev.reprS noG hr.units hR (Ev.eq (EvF.ev (EvF.call1 cN hr (Ev.v 7 rfl (rtx _)) ⟨l, hg, rfl⟩)) rdn) ly hcl) (Ev.v 3 rfl (rks _))) (show _ = true by simp)) fun G11 H11 u g11 r11 => ?_)
        cases r11
        exact kk G11 H11 (gE.trans g11.any) ((pE.gr g11).le (by omega))
end
end T91

namespace T91
open PySem L2 D1 Rp
/-! ### the fixed things that the law looks at -/
open SX
abbrev N3 : List Str := ["call", "in", "off"]
abbrev La : Ln := ⟨"call", ["call", "in", "off"], "in"⟩
abbrev Lb : Ln := ⟨"off", ["call", "in"], "off"⟩
abbrev Lc : Ln := ⟨"off", ["in", "off"], "by"⟩
def wideN : List Str := (signs LT).map fun s => "a" ++ s ++ "bcdefg"
instance {l : List Str} : Decidable (SortedS l) := inferInstanceAs (Decidable (l.Pairwise fun a b => leS a b = true))
theorem n3_ok : Nm8 N3 := ⟨by decide +kernel, by decide +kernel, by decide +kernel, by decide +kernel, by decide +kernel⟩
theorem na_ok : Nm8 (["a"] : List Str) := ⟨by decide +kernel, by decide +kernel, by decide +kernel, by decide +kernel, by decide +kernel⟩
theorem ci_part : Part (["call", "in"] : List Str) N3 := ⟨by decide +kernel, by decide +kernel, by decide +kernel, by decide +kernel⟩
theorem n3_part : Part N3 N3 := ⟨by decide +kernel, by decide +kernel, by decide +kernel, by decide +kernel⟩
theorem la_ok : LnGood La ∧ isLine La N3 = true := mk_line n3_ok (.inl rfl) n3_part (by decide +kernel) (by decide +kernel)
theorem lb_ok : LnGood Lb ∧ isLine Lb N3 = true := mk_line n3_ok (.inr rfl) ci_part (by decide +kernel) (by decide +kernel)
theorem wide_names : areNames wideN = true := by decide +kernel
theorem wide_sorted : SortedS wideN := by decide +kernel
theorem wide_len : wideN.length = 26 := by decide +kernel
theorem bio : Nm8 (["by", "in", "off"] : List Str) := ⟨by decide +kernel, by decide +kernel, by decide +kernel, by decide +kernel, by decide +kernel⟩
theorem lc_ok : LnGood Lc := (mk_line bio (.inr rfl) (f := ["in", "off"]) ⟨by decide +kernel, by decide +kernel, by decide +kernel, by decide +kernel⟩ (by decide +kernel) (by decide +kernel)).1
theorem lc_text : textOfLine Lc = "off by by in, off" := by decide +kernel
theorem ab_sorted : SortedD ([La, Lb] : List Ln) := by
  refine List.Pairwise.cons (fun x hx => ?_) (List.Pairwise.cons (fun x hx => by cases hx) List.Pairwise.nil)
  rw [List.mem_singleton.mp hx]
  decide +kernel
theorem ab_nodup : ([La, Lb] : List Ln).Nodup := by decide +kernel
theorem ab_dedup : dedup (sortD ([La, Lb] : List Ln)) = [La, Lb] := by rw [sortD_self ab_sorted, dedup_id ab_nodup]
theorem wide_nok : Nok wideN := ⟨wide_names, by rw [wide_len]; decide⟩
section
variable {C : Addr}
abbrev fxN (C : Addr) : Bk C := ⟨N3, [La, Lb]⟩
abbrev fxA (C : Addr) : Bk C := ⟨["a"], []⟩
abbrev pnW (C : Addr) : Pan C := ⟨wideN, [wideN, wideN.reverse]⟩
abbrev pnA (C : Addr) : Pan C := ⟨["a"], [["a"], ["a"]]⟩
theorem fxN_good : BkGood (fxN C) := ⟨n3_ok.nok, (sortS_self n3_ok.sorted).symm, n3_ok.ne, by show 2 < 1000; decide, (sortD_self ab_sorted).symm, ab_nodup, fun t ht => by
  rcases List.mem_cons.mp ht with e | ht
  · rw [e]; exact la_ok
  · rw [List.mem_singleton.mp ht]; exact lb_ok⟩
theorem fxA_good : BkGood (fxA C) := ⟨na_ok.nok, (sortS_self na_ok.sorted).symm, na_ok.ne, by show 0 < 1000; decide, (List.eq_nil_of_length_eq_zero (sortD_length [])).symm, List.nodup_nil, fun t ht => by cases ht⟩
theorem pnW_good : PanGood (pnW C) := ⟨wide_nok, (sortS_self wide_sorted).symm, fun e => (by have h := wide_len; have e2 : wideN = [] := e; rw [e2] at h; cases h), List.cons_ne_nil _ _, by show 2 < 64; decide, fun r hr => by
  rcases List.mem_cons.mp hr with e | hr
  · rw [e]
  · rw [List.mem_singleton.mp hr]; exact List.reverse_perm _⟩
theorem pnA_good : PanGood (pnA C) := ⟨na_ok.nok, (sortS_self na_ok.sorted).symm, na_ok.ne, List.cons_ne_nil _ _, by show 2 < 64; decide, fun r hr => by
  have e : r = (["a"] : List Str) := by
    rcases List.mem_cons.mp hr with e | hr
    · exact e
    · exact List.mem_singleton.mp hr
  rw [e]⟩
theorem fxN_text : bookText (fxN C) = "call, in, off; call in in call, in, off; off off by call, in" := by
  show Txt.join "; " ([lineOfNames N3] ++ [La, Lb].map textOfLine) = _
  decide +kernel
theorem fxA_text : bookText (fxA C) = "a" := by
  show Txt.join "; " ([lineOfNames ["a"]] ++ ([] : List Ln).map textOfLine) = _
  decide +kernel
theorem pnA_text : panelText (pnA C) = "a; a" := by
  show Txt.join "; " (([["a"], ["a"]] : List (List Str)).map lineOfNames) = _
  decide +kernel
end
end T91

namespace T91
open PySem L2 D1 Rp
/-! ### the law -/
open SX
def PLaw (K : PySem.W.Frag) : Sp := fun vs H Q _ => ∃ G v, ∃ ns : Scr K, vs = [v] ∧ Same G H ∧ rp G v ns ∧ ∀ H', Q (.bl true) H'
theorem we_callG2 {X : Cx} {a b : Expr} {σ : L2.St} {x : Str} {k j : Nat} {p pos : Pos} {sp : Sp} {H : Hp} {Q : VK} (cc : CalG X.prog X.w X.K X.mg X.base k x sp) (noG : X.A.guards = some []) (hr : Room j X.A) (h : WE X a σ H fun v H1 => WE X b σ H1 fun u H2 => sp [v, u] H2 Q C8.E0) (hk : k ≤ j := by decide) (hg : Gl X x := by rfl)
    (hdb : (x == ("__debug__" : Str)) = false := by decide) (hs : starEach [a, b] X.env = (false, eval a X.env) :: starEach [b] X.env := by rfl) (hs2 : starEach [b] X.env = (false, eval b X.env) :: starEach [] X.env := by rfl) (hpl : (backTo pos (starEach [b] X.env)).any (·.1) = false := by rfl) : WE X (.Call (.Name x p) [a, b] [] pos) σ H Q :=
  WE.of (pe_cG cc noG hr hk hg (pa_cons pe_we (pa_cons pe_we pa_nil hs2) hs) hdb hs hpl) h
/-- the condition: not right(purse, names) -/
theorem wt_right {X : Cx} {σ : L2.St} {G H : Hp} {Q : Bool → Hp → Prop} {i j k : Nat} {q : Addr} {v : V} {ns : List Str} {b' : Int} {x y z : Str} {p1 p2 p3 p4 pn : Pos} (c : CalG X.prog X.w X.K X.mg X.base k x PRight) (noG : X.A.guards = some []) (hr : Room 12 X.A) (s : Same G H) (pq : Purse q b' G H) (hi : σ[i]? = some (some (.ref q))) (hj : σ[j]? = some (some v)) (r : rp G v ns) (hn : Nm8 ns) (hb : b' < 2 ^ 34)
    (kk : ∀ G' H', GrM (Mq q) G H G' H' → Purse q (b' + 400) G' H' → Q false H') (hk : k ≤ 12 := by decide) (hg : Gl X x := by rfl) (hdb : (x == ("__debug__" : Str)) = false := by decide)
    (hN : X.N[i]? = some y := by rfl) (hv : Vis X.env.scope y := by first | exact Or.inl rfl | exact Or.inr (Or.inl rfl) | exact Or.inr (Or.inr rfl)) (hd : (y == ("__debug__" : Str)) = false := by decide) (hcd : (y == ("__classdict__" : Str)) = false := by decide)
    (hN2 : X.N[j]? = some z := by rfl) (hv2 : Vis X.env.scope z := by first | exact Or.inl rfl | exact Or.inr (Or.inl rfl) | exact Or.inr (Or.inr rfl)) (hd2 : (z == ("__debug__" : Str)) = false := by decide) (hcd2 : (z == ("__classdict__" : Str)) = false := by decide)
    (hs : starEach [.Name y p2, .Name z p3] X.env = (false, eval (.Name y p2) X.env) :: starEach [.Name z p3] X.env := by rfl) (hs2 : starEach [.Name z p3] X.env = (false, eval (.Name z p3) X.env) :: starEach [] X.env := by rfl) (hpl : (backTo p4 (starEach [.Name z p3] X.env)).any (·.1) = false := by rfl)
    (he : ∀ whole, isTrue (.Call (.Name x p1) [.Name y p2, .Name z p3] [] p4) X.env whole = (do let v ← whole; standAt (Expr.Call (.Name x p1) [.Name y p2, .Name z p3] [] p4).pos; holding [v] (truthy v)) := by intro _; rfl) :
    WT X (.UnaryOp .Not (.Call (.Name x p1) [.Name y p2, .Name z p3] [] p4) pn) σ H Q :=
  wt_not (wt_val (we_callG2 c noG hr (we_v i hi (we_v j hj ⟨G, q, v, ns, b', rfl, s, pq, r, hn, hb, fun G' H' g p => ⟨true, rfl, kk G' H' g p⟩⟩ hN2 hv2 hd2 hcd2) hN hv hd hcd) hk hg hdb hs hs2 hpl) he)
theorem signs_one : ∀ d ∈ signs LT, d.length ≤ 1 := by decide +kernel
section
variable {P : Program} {w : World} {K : PySem.W.Frag} {mg : Str → Option Value} {base : Heap} {f CP CB eqP eqB : Addr} {fd fp fb : FuncData}
set_option maxHeartbeats 16000000 in
theorem law_fn (D : C8.Fun K "law" "law" sLaw f fd) (B : Bt mg) (OB : OEq K CB eqB) (FB : FnOk P w K mg base C8.CX0 1 eqB fb ["self", "other"] (P2 (fun a b : Bk CB => BkOk a ∧ BkOk b) (fun a b => decide (a = b)))) (hbB : Binds K fb ["self", "other"] [])
    (OP : OEq K CP eqP) (FP : FnOk P w K mg base C8.CX0 1 eqP fp ["self", "other"] (P2 (fun a b : Pan CP => PanOk a ∧ PanOk b) (fun a b => decide (a = b)))) (hbP : Binds K fp ["self", "other"] [])
    (cPs : C8.Cal P w K mg base 2 "_law_purses" (PPurses K) []) (cW : C8.Cal P w K mg base 4 "_law_words" PWords []) (cD : C8.Cal P w K mg base 2 "_law_draw" PDraw [])
    (mP : C8.Mak P w K mg base 5 "Panel" CP (PI2 CP panPre (fun es rs => (⟨sortS es, rs⟩ : Pan CP))) []) (mB : C8.Mak P w K mg base 7 "Book" CB (PI2 CB bkPre (mkBk : List Str → List Ln → Bk CB)) [])
    (cPT : C8.Cal P w K mg base 2 "panel_text" (P1 (fun p : Pan CP => PanGood p) panelText) []) (cPR : C8.Cal P w K mg base 9 "read_panel" (P1 (fun t => ∃ p : Pan CP, PanGood p ∧ t = panelText p) (fun t => ((panelOfText CP t).getD ⟨[], []⟩))) [])
    (cBT : C8.Cal P w K mg base 3 "book_text" (P1 (fun d : Bk CB => BkGood d) bookText) []) (cBR : C8.Cal P w K mg base 11 "read_book" (P1 (fun t => ∃ d : Bk CB, BkGood d ∧ t = bookText d) (fun t => ((bookOfText CB t).getD ⟨[], []⟩))) [])
    (cLR : C8.Cal P w K mg base 7 "read_line" (P1F (fun t => ∃ l, LnGood l ∧ t = textOfLine l) (fun t => ((lineOf t).getD ⟨"", [], ""⟩))) [])
    (rN : CalG P w K mg base 5 "_law_names_right" PRight) (rL : CalG P w K mg base 12 "_law_lines_right" PRight) (rP : CalG P w K mg base 10 "_law_panels_right" PRight) (rR : CalG P w K mg base 9 "_law_rounds_right" PRight) :
    FnG P w K mg base 13 f fd ["script"] (PLaw K) := by
  refine FnG.of D scLaw (fun vs H Q E h => ?_) fun cdv A outer s H vs Q E noG hr h => ?_
  · obtain ⟨G, v, ns, rfl, _⟩ := h
    rfl
  · obtain ⟨G, v, ns, rfl, sG, r, kk⟩ := h
    have a6 : sizeLine = 16777216 := rfl
    have mkN : (mkBk N3 [La, Lb] : Bk CB) = fxN CB := (fxN_good (C := CB)).made
    have mkA : (mkBk ["a"] [] : Bk CB) = fxA CB := (fxA_good (C := CB)).made
    have prN : bkPre N3 [La, Lb] := (fxN_good (C := CB)).pre
    have prA : bkPre ["a"] [] := (fxA_good (C := CB)).pre
    have pnWm : (⟨sortS wideN, [wideN, wideN.reverse]⟩ : Pan CP) = pnW CP := by rw [sortS_self wide_sorted]
    have pnAm : (⟨sortS ["a"], [["a"], ["a"]]⟩ : Pan CP) = pnA CP := by rw [sortS_self na_ok.sorted]
    have bN : (fun t => ((bookOfText CB t).getD ⟨[], []⟩)) "call, in, off; call in in call, in, off; off off by call, in" = fxN CB := by show (bookOfText CB _).getD _ = _; rw [← fxN_text (C := CB), bk_back fxN_good]; rfl
    have bA : (fun t => ((bookOfText CB t).getD ⟨[], []⟩)) "a" = fxA CB := by show (bookOfText CB _).getD _ = _; rw [← fxA_text (C := CB), bk_back fxA_good]; rfl
    have bL : (fun t => ((lineOf t).getD ⟨"", [], ""⟩)) "off by by in, off" = Lc := by show (lineOf _).getD _ = _; rw [← lc_text, line_back lc_ok]; rfl
    have bW : (fun t => ((panelOfText CP t).getD ⟨[], []⟩)) (panelText (pnW CP)) = pnW CP := by show (panelOfText CP _).getD _ = _; rw [pan_back pnW_good]; rfl
    refine ws_asg 1 (Same.refl G) sG (d := N3) (Ev.lst (EL.cons Ev.str (EL.cons Ev.str (EL.cons Ev.str EL.nil))) (show 3 ≤ 1000 by decide)) (fun G1 H1 nw g1 rn => ?_) scLaw.nd
    refine ws_asg 2 (Same.refl G1) g1.s (d := fxN CB) (Ev.eq (Ev.make2 mB hr (Ev.v 1 rfl rn) (Ev.lst (EL.cons (Ev.tup3 Ev.str (Ev.v 1 rfl rn) Ev.str) (EL.cons (Ev.tup3 Ev.str (Ev.lst (EL.cons Ev.str (EL.cons Ev.str EL.nil)) (show 2 ≤ 1000 by decide)) Ev.str) EL.nil)) (show 2 ≤ 1000 by decide)) prN) mkN) (fun G2 H2 bw g2 rb => ?_) scLaw.nd
    refine ws_ifF (Same.refl G2) g2.s (ET.eq (ET.neS (Ev.call1 cBT hr (Ev.v 2 rfl rb) fxN_good) Ev.str) (by rw [fxN_text]; simp)) fun G3 H3 g3 => ?_
    have rb3 := rup g3.g rb
    refine ws_ifF (Same.refl G3) g3.s (ET.eq (ET.neO (EqOk.of (pre := fun a : Bk CB => BkOk a) OB FB hbB) (hr.mono (by decide)) (Ev.eq (Ev.call1 cBR hr Ev.str ⟨fxN CB, fxN_good, fxN_text.symm⟩) bN) (Ev.v 2 rfl rb3) fxN_good.ok fxN_good.ok) (by simp)) fun G4 H4 g4 => ?_
    refine ws_ifF (Same.refl G4) g4.s (ET.eq (EW.t (EW.or (ET.neD hr.units (Ev.eq (EvF.ev (EvF.call1 cLR hr Ev.str ⟨Lc, lc_ok, lc_text.symm⟩)) bL) (Ev.tup3 Ev.str (Ev.lst (EL.cons Ev.str (EL.cons Ev.str EL.nil)) (show 2 ≤ 1000 by decide)) Ev.str) lc_ok.ok.lay lc_ok.ok.lay) fun _ => EW.or1 (ET.neO (EqOk.of (pre := fun a : Bk CB => BkOk a) OB FB hbB) (hr.mono (by decide)) (Ev.eq (Ev.call1 cBR hr Ev.str ⟨fxA CB, fxA_good, fxA_text.symm⟩) bA) (Ev.eq (Ev.make2 mB hr (Ev.lst (EL.cons Ev.str EL.nil) (show 1 ≤ 1000 by decide)) Ev.nil prA) mkA) fxA_good.ok fxA_good.ok))) (by simp)) fun G5 H5 g5 => ?_
    refine ws_asgMap 3 4 (Same.refl G5) g5.s (f := fun s : Str => ("a" : Str) ++ s ++ ("bcdefg" : Str)) (EI.str (z := LT) Ev.str) (fun d hd G' v' s1 r' s H C cl fp => ?_) (by rw [show (signs LT).length = 26 from by decide +kernel]; decide) scLaw.nd (blkOk_by (N := nLaw) (sc := C8.fnScope sLaw) (by decide +kernel)) (fun G6 H6 ww g6 rw6 => ?_)
    · have h1 := signs_one d hd
      have h2 := len_cat "a" d
      have h3 : ("a" : Str).length = 1 := by decide +kernel
      have h4 : ("bcdefg" : Str).length = 6 := by decide +kernel
      exact Ev.addS (Ev.addS Ev.str (Ev.v 4 rfl r') (by omega)) Ev.str (by omega)
    refine ws_asg 5 (Same.refl G6) g6.s (d := pnW CP) (Ev.eq (Ev.make2 mP hr (Ev.v 3 rfl rw6) (Ev.lst (EL.cons (Ev.v 3 rfl rw6) (EL.cons (Ev.revL (Ev.v 3 rfl rw6)) EL.nil)) (show 2 ≤ 1000 by decide)) (pnW_good (C := CP)).pre) pnWm) (fun G7 H7 pw g7 rpw => ?_) scLaw.nd
    refine ws_ifF (Same.refl G7) g7.s (ET.eq (EW.t (EW.or (ET.neO (EqOk.of (pre := fun a : Pan CP => PanOk a) OP FP hbP) (hr.mono (by decide)) (Ev.eq (Ev.call1 cPR hr (Ev.call1 cPT hr (Ev.v 5 rfl rpw) pnW_good) ⟨pnW CP, pnW_good, rfl⟩) bW) (Ev.v 5 rfl rpw) pnW_good.ok pnW_good.ok) fun _ => EW.or1 (ET.neS (Ev.call1 cPT hr (Ev.eq (Ev.make2 mP hr (Ev.lst (EL.cons Ev.str EL.nil) (show 1 ≤ 1000 by decide)) (Ev.lst (EL.cons (Ev.lst (EL.cons Ev.str EL.nil) (show 1 ≤ 1000 by decide)) (EL.cons (Ev.lst (EL.cons Ev.str EL.nil) (show 1 ≤ 1000 by decide)) EL.nil)) (show 2 ≤ 1000 by decide)) (pnA_good (C := CP)).pre) pnAm) pnA_good) Ev.str))) (by rw [pnA_text]; simp)) fun G8 H8 g8 => ?_
    have g08 := (((((((g1.trans g2).trans g3).trans g4).trans g5).trans g6).trans g7).trans g8)
    have r8 := rup g08.g r
    refine ws_forL (γ := Adr) 6 (G1 := G8) (fun qs i σ' G' H' => ∃ t1 t2 t3 t4 t5 t6, σ' = [some v, t1, t2, t3, t4, t5, t6] ∧ qs.Nodup ∧ ∀ q ∈ qs.drop i, Purse q.p 0 G' H')
      (we_call2 cPs hr (we_v 0 rfl (Ev.ap g8.s (Ev.int (i := 3)) fun G9 H9 v9 g9 r9 => ?_))) ?_ ?_ scLaw.nd
    · cases r9
      exact ⟨G9, v, ns, 3, rfl, g9.s, rup g9.g r8, by decide, by decide, fun G10 H10 w qs g10 rw hnd hl hq => ⟨qs, G10, (g9.trans g10).g, g10.s, rw, _, _, _, _, _, _, rfl, hnd, fun q hq' => (hq q hq').2⟩⟩
    · rintro qs i q σ1 G2 H2 qv hc s12 s22 rq ⟨t1, t2, t3, t4, t5, t6, rfl, hnd, hp⟩
      cases rq
      have hdr : qs.drop i = q :: qs.drop (i + 1) := by
        obtain ⟨h1, h2⟩ := List.getElem?_eq_some_iff.mp hc
        rw [List.drop_eq_getElem_cons h1, h2]
      have pq : Purse q.p 0 G2 H2 := hp q (by rw [hdr]; exact List.mem_cons_self)
      refine ws_asgW 1 (we_call2 cW hr (we_v 6 rfl (we_op op_add (Ev.ap s22 (Ev.int (i := 1)) fun G3 H3 v3 g3 r3 => ?_)))) scLaw.nd
      cases r3
      refine we_call2 cD hr (we_v 6 rfl (Ev.ap g3.s (Ev.int (i := 5)) fun G4 H4 v4 g4 r4 => ?_))
      cases r4
      refine ⟨G4, q.p, 5, 0, rfl, g4.s, (pq.gr g3).gr g4, by decide, by decide, by decide, fun G5 H5 z g5 p5 z0 z5 => ⟨1, z, rfl, rfl, ?_⟩⟩
      have ez : (1 + z : Int) = ((1 + z).toNat : Nat) := by rw [Int.toNat_of_nonneg (by omega)]
      refine ⟨G5, q.p, (1 + z).toNat, _, by show [V.ref q.p, V.int (1 + z)] = [V.ref q.p, V.int (((1 + z).toNat : Nat) : Int)]; rw [← ez], g5.s, p5, by omega, by decide, fun G6 H6 nw nm g6 p6 hlen hso hnn hname rn => ?_⟩
      have hn : Nm8 nm := ⟨hname, hnn, hso, by omega, fun e => by rw [e] at hlen; simp at hlen; omega⟩
      have g06 := ((g3.trans g4).any.trans g5).trans g6
      refine ws_ifW (wt_or2 (wt_right (i := 6) (j := 1) rN noG hr g6.s p6 rfl rfl rn hn (by decide) fun G7 H7 g7 p7 => ?_))
      rw [if_neg Bool.false_ne_true]
      refine wt_right (i := 6) (j := 1) rL noG hr g7.s p7 rfl rfl (rup g7.g rn) hn (by decide) fun G8 H8 g8 p8 => ?_
      refine iteF (ws_nil ?_)
      refine ws_ifW (wt_or2 (wt_right (i := 6) (j := 1) rP noG hr g8.s p8 rfl rfl (rup (g7.trans g8).g rn) hn (by decide) fun G9 H9 g9 p9 => ?_))
      rw [if_neg Bool.false_ne_true]
      refine wt_right (i := 6) (j := 1) rR noG hr g9.s p9 rfl rfl (rup ((g7.trans g8).trans g9).g rn) hn (by decide) fun G10 H10 g10 p10 => ?_
      have gA := (((g06.trans g7).trans g8).trans g9).trans g10
      refine iteF (ws_nil (ws_nil ⟨G10, gA.g, g10.s, _, _, _, _, _, _, rfl, hnd, fun q' hq' => ?_⟩))
      have hne : q' ≠ q := fun e => by
        subst e
        have h1 : (qs.drop i).Nodup := (List.drop_sublist _ _).nodup hnd
        rw [hdr] at h1
        exact (List.nodup_cons.mp h1).1 hq'
      have p2 := hp q' (by rw [hdr]; exact List.mem_cons_of_mem _ hq')
      have hpne : q'.p ≠ q.p := fun e => hne (by cases q; cases q'; simp only [Adr.mk.injEq]; exact e)
      exact p2.grM gA hpne
    · rintro qs σ1 G2 H2 s12 s22 ⟨t1, t2, t3, t4, t5, t6, rfl, hnd, hp⟩
      exact ws_retW (Ev.ap s22 Ev.bl fun G3 H3 v3 g3 r3 => by cases r3; exact kk H3)
end
theorem cal_some {P : Program} {w : World} {K : PySem.W.Frag} {mg : Str → Option Value} {base : Heap} {k : Nat} {x : Str} (c : C8.Cal P w K mg base k x (P1F (fun t => ∃ ns, Nm ns ∧ t = lineOfNames ns) namesOf) []) :
    C8.Cal P w K mg base k x (P1F (fun t => ∃ ns, Nm ns ∧ t = lineOfNames ns) (fun t => some ((namesOf t).getD []))) [] := cal_imp c fun vs H Q E h => by
  obtain ⟨G, v, t, e, s, r, ⟨ns, hn, et⟩, kk⟩ := h
  refine ⟨G, v, t, e, s, r, ⟨ns, hn, et⟩, fun G' H' w g r' => kk G' H' w g ?_⟩
  have e2 : namesOf t = some ns := by rw [et, namesOf_lon hn.1]
  show rp (dif G' H) w (some ((namesOf t).getD []))
  rw [e2] at r' ⊢
  exact r'
end T91

namespace T91
open PySem L2 D1 Rp
/-! ### what the top has written -/
def DefAt (K : PySem.W.Frag) (x : Str) (st : Stmt) : Prop := ∃ (f : Addr) (oc : Value) (od : Option Addr) (kV dc pm : Value) (an : Option Addr) (cd ct : Value) (sl : Array (Option Value)),
  PySem.W.nsIn K mainGlobals x = some (some (.ref f)) ∧ K.lookup f = some ⟨oc, od, .func (PySem.W.fnOf x x (C8.fnArgs st) (C8.fnBody st) (C8.fnScope st) .none kV dc pm an cd ct), sl⟩ ∧ PySem.W.codeIn K cd x = true ∧ PySem.W.keepIn K (.ref f) = true
def MethAt (K : PySem.W.Frag) (C : Addr) (m qual : Str) (st : Stmt) (f : Addr) : Prop := ∃ (od : Option Addr) (kV dc pm : Value) (an : Option Addr) (cd ct : Value) (sl : Array (Option Value)),
  PySem.W.findIn K (.ref C) m = some (some (.ref f)) ∧ PySem.W.isFn K (.ref f) = true ∧ K.lookup f = some ⟨.type "function", od, .func (PySem.W.fnOf m qual (C8.fnArgs st) (C8.fnBody st) (C8.fnScope st) .none kV dc pm an cd ct), sl⟩ ∧ PySem.W.codeIn K cd qual = true ∧ PySem.W.keepIn K (.ref f) = true
theorem DefAt.of {K : PySem.W.Frag} {x : Str} {st : Stmt} {f : Addr} {oc : Value} {od : Option Addr} {kV dc pm : Value} {an : Option Addr} {cd ct : Value} {sl : Array (Option Value)} (a : PySem.W.nsIn K mainGlobals x = some (some (.ref f))) (l : K.lookup f = some ⟨oc, od, .func (PySem.W.fnOf x x (C8.fnArgs st) (C8.fnBody st) (C8.fnScope st) .none kV dc pm an cd ct), sl⟩)
    (c : PySem.W.codeIn K cd x = true) (k : PySem.W.keepIn K (.ref f) = true) : DefAt K x st := ⟨f, oc, od, kV, dc, pm, an, cd, ct, sl, a, l, c, k⟩
theorem MethAt.of {K : PySem.W.Frag} {C : Addr} {m qual : Str} {st : Stmt} {f : Addr} {od : Option Addr} {kV dc pm : Value} {an : Option Addr} {cd ct : Value} {sl : Array (Option Value)} (a : PySem.W.findIn K (.ref C) m = some (some (.ref f))) (i : PySem.W.isFn K (.ref f) = true) (l : K.lookup f = some ⟨.type "function", od, .func (PySem.W.fnOf m qual (C8.fnArgs st) (C8.fnBody st) (C8.fnScope st) .none kV dc pm an cd ct), sl⟩)
    (c : PySem.W.codeIn K cd qual = true) (k : PySem.W.keepIn K (.ref f) = true) : MethAt K C m qual st f := ⟨od, kV, dc, pm, an, cd, ct, sl, a, i, l, c, k⟩
structure ClsAt (K : PySem.W.Frag) (x : Str) (C : Addr) : Prop where
  aC : PySem.W.nsIn K mainGlobals x = some (some (.ref C))
  pg : PySem.W.plainGet K C Str.empty = true
  hd : PySem.W.hasDictIn K C = true
  po : PySem.W.plainOver K C = true
  sa : PySem.W.findIn K (.ref C) "__setattr__" = some (some (.builtin "object.__setattr__"))
  mks : PySem.W.makesIn K C = true
  kp : PySem.W.keepIn K (.ref C) = true
  ha : PySem.W.findIn K (.ref C) "__class__" = some (some (.builtin "object.__class__"))
  hn : PySem.W.specialIn K (.builtin "object.__class__") "__get__" = some (some (.builtin "getset_descriptor.__get__"))
  htk : PySem.W.takesIn K (.builtin "object.__class__") = some true
  hm : PySem.W.mroIn K C (.type "object") = some true
def OwnAt (K : PySem.W.Frag) (C f : Addr) : Prop := ∃ (nm q : Str) (N : Addr) (bs : List Value) (hdct : Bool) (sn : List Str) (sub : List Value) (ab : Bool) (col : Option Bool) (dd : Option Addr) (k0 k1 k2 k3 k5 : Option Value) (nid : String) (oN : Value) (dN : Option Addr) (esN : Array DictEntry) (epN : Nat) (slN : Array (Option Value)),
  K.lookup C = some (excClassObj nm q C N bs [.type "object"] hdct sn sub ab col dd k0 k1 k2 k3 k5 nid) ∧ PySem.W.nsIn K N "__eq__" = some (some (.ref f)) ∧ PySem.W.nsIn K N "__ne__" = some none ∧ K.lookup N = some ⟨oN, dN, .dict esN epN, slN⟩ ∧ (esN.toList.all fun e => match e.key with | .str _ _ => true | _ => false) = true
theorem OwnAt.of {K : PySem.W.Frag} {C f : Addr} {nm q : Str} {N : Addr} {bs : List Value} {hdct : Bool} {sn : List Str} {sub : List Value} {ab : Bool} {col : Option Bool} {dd : Option Addr} {k0 k1 k2 k3 k5 : Option Value} {nid : String} {oN : Value} {dN : Option Addr} {esN : Array DictEntry} {epN : Nat} {slN : Array (Option Value)}
    (x : K.lookup C = some (excClassObj nm q C N bs [.type "object"] hdct sn sub ab col dd k0 k1 k2 k3 k5 nid)) (y : PySem.W.nsIn K N "__eq__" = some (some (.ref f))) (z : PySem.W.nsIn K N "__ne__" = some none) (n : K.lookup N = some ⟨oN, dN, .dict esN epN, slN⟩) (r : (esN.toList.all fun e => match e.key with | .str _ _ => true | _ => false) = true) : OwnAt K C f :=
  ⟨nm, q, N, bs, hdct, sn, sub, ab, col, dd, k0, k1, k2, k3, k5, nid, oN, dN, esN, epN, slN, x, y, z, n, r⟩
section
variable {P : Program} {w : World} {K : PySem.W.Frag} {mg : Str → Option Value} {base h : Heap} {C : Addr}
theorem ClsAt.cls {x : Str} (c : ClsAt K x C) : Cls K C := ⟨c.pg, c.hd, c.po, c.sa⟩
theorem ClsAt.isi {x : Str} (c : ClsAt K x C) : C8.InsC K C := ⟨c.cls, c.ha, c.hn, c.htk, c.hm, if_pos (beq_self_eq_true _)⟩
theorem DefAt.at {x : Str} {st : Stmt} (h1 : DefAt K x st) (X : K.In h) (G : h.Ns mainGlobals mg) (ps : List Str)
    (hb : ∀ (kV doc pm : Value) (an : Option Addr) (cdv ct : Value) (us : List Value), us.length = ps.length → bindArgs (PySem.W.fnOf x x (C8.fnArgs st) (C8.fnBody st) (C8.fnScope st) .none kV doc pm an cdv ct) ⟨us, []⟩ = pure (ps.zip us)) : ∃ f fd, C8.Def K mg x st f fd ∧ Binds K fd ps [] := by
  obtain ⟨f, oc, od, kV, dc, pm, an, cd, ct, sl, a, l, c, k⟩ := h1
  have F : C8.Fun K x x st f (PySem.W.fnOf x x (C8.fnArgs st) (C8.fnBody st) (C8.fnScope st) .none kV dc pm an cd ct) := ⟨oc, od, .none, kV, dc, pm, an, cd, ct, sl, rfl, l, c⟩
  exact ⟨f, _, ⟨F, PySem.W.mg_of X G a, k⟩, F.binds rfl hb⟩
theorem MethAt.at {m qual : Str} {st : Stmt} {f : Addr} (h1 : MethAt K C m qual st f) (ps : List Str)
    (hb : ∀ (kV doc pm : Value) (an : Option Addr) (cdv ct : Value) (us : List Value), us.length = ps.length → bindArgs (PySem.W.fnOf m qual (C8.fnArgs st) (C8.fnBody st) (C8.fnScope st) .none kV doc pm an cdv ct) ⟨us, []⟩ = pure (ps.zip us)) : ∃ fd, C8.Fun K m qual st f fd ∧ Meth K C m f ∧ Binds K fd ps [] := by
  obtain ⟨od, kV, dc, pm, an, cd, ct, sl, a, i, l, c, k⟩ := h1
  have F : C8.Fun K m qual st f (PySem.W.fnOf m qual (C8.fnArgs st) (C8.fnBody st) (C8.fnScope st) .none kV dc pm an cd ct) := ⟨.type "function", od, .none, kV, dc, pm, an, cd, ct, sl, rfl, l, c⟩
  exact ⟨_, F, ⟨a, i, k⟩, F.binds rfl hb⟩
theorem MethAt.own {qual : Str} {st : Stmt} {f : Addr} (h1 : MethAt K C "__eq__" qual st f) (h2 : OwnAt K C f) : OEq K C f := by
  obtain ⟨od, kV, dc, pm, an, cd, ct, sl, a, i, l, c, k⟩ := h1
  obtain ⟨nm, q, N, bs, hdct, sn, sub, ab, col, dd, k0, k1, k2, k3, k5, nid, oN, dN, esN, epN, slN, e1, e2, e3, e4, e5⟩ := h2
  refine ⟨a, i, ⟨nm, q, N, bs, hdct, sn, sub, ab, col, dd, k0, k1, k2, k3, k5, nid, e1, ?_, e2, e3⟩, ⟨_, l, rfl⟩⟩
  unfold PySem.W.nsOkIn
  rw [e4]
  rw [Array.all_toList] at e5
  exact e5
theorem cal_at {k : Nat} {x : Str} {sp : Sp} {f0 : Addr} (c : C8.Cal P w K mg base k x sp []) (hm : mg x = some (.ref f0)) : C8.CalAt P w K mg base k f0 sp := by
  obtain ⟨f, fd, ps, ds, F, m, kp, b, v⟩ := c.ex
  rw [hm] at m
  cases m
  cases v
  exact ⟨fd, ps, F, kp, b⟩
end
theorem all_mk {P : Program} {w : World} {K : PySem.W.Frag} {h : Heap} {mg : Str → Option Value} {fa CP CB fPi fPn fPr fPe fBi fBe fBl fBq : Addr} {tok : Tok} (X : K.In h) (G : h.Ns mainGlobals mg) (hfa : mg "law" = some (.ref fa))
    (aL : PySem.W.nsIn K mainGlobals "LETTERS" = some (some (.str LT tok)))
    (cP : ClsAt K "Panel" CP)
    (cB : ClsAt K "Book" CB)
    (mPInit : MethAt K CP "__init__" "Panel.__init__" sPanelInit fPi)
    (mPEntries : MethAt K CP "entries" "Panel.entries" sPanelEntries fPn)
    (mPRows : MethAt K CP "rows" "Panel.rows" sPanelRows fPr)
    (mPEq : MethAt K CP "__eq__" "Panel.__eq__" sPanelEq fPe)
    (mBInit : MethAt K CB "__init__" "Book.__init__" sBookInit fBi)
    (mBEntries : MethAt K CB "entries" "Book.entries" sBookEntries fBe)
    (mBLines : MethAt K CB "lines" "Book.lines" sBookLines fBl)
    (mBEq : MethAt K CB "__eq__" "Book.__eq__" sBookEq fBq)
    (nP_names : PySem.W.findIn K (.ref CP) "names" = some none)
    (nP_orders : PySem.W.findIn K (.ref CP) "orders" = some none)
    (nP_spots : PySem.W.findIn K (.ref CP) "spots" = some none)
    (nB_names : PySem.W.findIn K (.ref CB) "names" = some none)
    (nB_told : PySem.W.findIn K (.ref CB) "told" = some none)
    (oP : OwnAt K CP fPe)
    (oB : OwnAt K CB fBq)
    (dIsName : DefAt K "is_name" sIsName)
    (dAreNames : DefAt K "are_names" sAreNames)
    (dAreEntries : DefAt K "are_entries" sAreEntries)
    (dIsAscending : DefAt K "is_ascending" sIsAscending)
    (dIsLot : DefAt K "is_lot" sIsLot)
    (dIsField : DefAt K "is_field" sIsField)
    (dCheckEntries : DefAt K "check_entries" sCheckEntries)
    (dSpotsOf : DefAt K "spots_of" sSpotsOf)
    (dIsRow : DefAt K "is_row" sIsRow)
    (dAreRows : DefAt K "are_rows" sAreRows)
    (dCheckPanel : DefAt K "check_panel" sCheckPanel)
    (dIsLine : DefAt K "is_line" sIsLine)
    (dCopied : DefAt K "copied" sCopied)
    (dCheckBook : DefAt K "check_book" sCheckBook)
    (dLineOfNames : DefAt K "line_of_names" sLineOfNames)
    (dIsSomeLine : DefAt K "is_some_line" sIsSomeLine)
    (dTextOfLine : DefAt K "text_of_line" sTextOfLine)
    (dIsSomeRound : DefAt K "is_some_round" sIsSomeRound)
    (dNamesText : DefAt K "names_text" sNamesText)
    (dPanelText : DefAt K "panel_text" sPanelText)
    (dLineText : DefAt K "line_text" sLineText)
    (dBookText : DefAt K "book_text" sBookText)
    (dRoundsText : DefAt K "rounds_text" sRoundsText)
    (dNamesOf : DefAt K "names_of" sNamesOf)
    (dPanelOfText : DefAt K "panel_of_text" sPanelOfText)
    (dLineOf : DefAt K "line_of" sLineOf)
    (dBookOfText : DefAt K "book_of_text" sBookOfText)
    (dRoundOf : DefAt K "round_of" sRoundOf)
    (dRoundsOf : DefAt K "rounds_of" sRoundsOf)
    (dReadBy : DefAt K "read_by" sReadBy)
    (dReadNames : DefAt K "read_names" sReadNames)
    (dReadPanel : DefAt K "read_panel" sReadPanel)
    (dReadLine : DefAt K "read_line" sReadLine)
    (dReadBook : DefAt K "read_book" sReadBook)
    (dReadRounds : DefAt K "read_rounds" sReadRounds)
    (dLawPurse : DefAt K "_law_purse" sLawPurse)
    (dLawMixed : DefAt K "_law_mixed" sLawMixed)
    (dLawDraw : DefAt K "_law_draw" sLawDraw)
    (dLawPurses : DefAt K "_law_purses" sLawPurses)
    (dLawOneOf : DefAt K "_law_one_of" sLawOneOf)
    (dLawShuffled : DefAt K "_law_shuffled" sLawShuffled)
    (dLawWord : DefAt K "_law_word" sLawWord)
    (dLawRowsOf : DefAt K "_law_rows_of" sLawRowsOf)
    (dLawLine : DefAt K "_law_line" sLawLine)
    (dLawLineText : DefAt K "_law_line_text" sLawLineText)
    (dLawWords : DefAt K "_law_words" sLawWords)
    (dLawRoundsOf : DefAt K "_law_rounds_of" sLawRoundsOf)
    (dLawNamesRight : DefAt K "_law_names_right" sLawNamesRight)
    (dLawLinesRight : DefAt K "_law_lines_right" sLawLinesRight)
    (dLawPanelsRight : DefAt K "_law_panels_right" sLawPanelsRight)
    (dLawRoundsRight : DefAt K "_law_rounds_right" sLawRoundsRight)
    (dLaw : DefAt K "law" sLaw)
    (z_isinstance : PySem.W.nsIn K mainGlobals "isinstance" = some none)
    (z_len : PySem.W.nsIn K mainGlobals "len" = some none)
    (z_set : PySem.W.nsIn K mainGlobals "set" = some none)
    (z_list : PySem.W.nsIn K mainGlobals "list" = some none)
    (z_dict : PySem.W.nsIn K mainGlobals "dict" = some none)
    (z_tuple : PySem.W.nsIn K mainGlobals "tuple" = some none)
    (z_str : PySem.W.nsIn K mainGlobals "str" = some none)
    (z_int : PySem.W.nsIn K mainGlobals "int" = some none)
    (z_bool : PySem.W.nsIn K mainGlobals "bool" = some none)
    (z_sorted : PySem.W.nsIn K mainGlobals "sorted" = some none)
    (z_range : PySem.W.nsIn K mainGlobals "range" = some none)
    (z_enumerate : PySem.W.nsIn K mainGlobals "enumerate" = some none)
    (z_zip : PySem.W.nsIn K mainGlobals "zip" = some none)
    (z_sum : PySem.W.nsIn K mainGlobals "sum" = some none)
    (z_max : PySem.W.nsIn K mainGlobals "max" = some none)
    (z_min : PySem.W.nsIn K mainGlobals "min" = some none)
    (z_repr : PySem.W.nsIn K mainGlobals "repr" = some none)
    : ∃ fd : FuncData, (∀ (s : Shared) (v : Value), BindsTo s fd ⟨[v], []⟩ [("script", v)]) ∧ ∀ base : Heap, K.In base → base.Ns mainGlobals mg → FnG P w K mg base 13 fa fd ["script"] (PLaw K) := by
  have B : Bt mg := ⟨PySem.W.mg_none_of X G z_isinstance, PySem.W.mg_none_of X G z_len, PySem.W.mg_none_of X G z_set, PySem.W.mg_none_of X G z_list, PySem.W.mg_none_of X G z_dict, PySem.W.mg_none_of X G z_tuple, PySem.W.mg_none_of X G z_str, PySem.W.mg_none_of X G z_int, PySem.W.mg_none_of X G z_bool, PySem.W.mg_none_of X G z_sorted, PySem.W.mg_none_of X G z_range, PySem.W.mg_none_of X G z_enumerate, PySem.W.mg_none_of X G z_zip, PySem.W.mg_none_of X G z_sum, PySem.W.mg_none_of X G z_max, PySem.W.mg_none_of X G z_min⟩
  have TP : PanT K mg CP := ⟨cP.cls, nP_names, nP_orders, nP_spots, PySem.W.mg_of X G cP.aC, cP.isi⟩
  have TB : BkT K mg CB := ⟨cB.cls, nB_names, nB_told, PySem.W.mg_of X G cB.aC, cB.isi⟩
  obtain ⟨gmPInit, FmPInit, MmPInit, bmPInit⟩ := mPInit.at ["self", "entries", "rows"] (fun _ _ _ _ _ _ us hl => match us, hl with | [_, _, _], _ => rfl)
  obtain ⟨gmPEntries, FmPEntries, MmPEntries, bmPEntries⟩ := mPEntries.at ["self"] (fun _ _ _ _ _ _ us hl => match us, hl with | [_], _ => rfl)
  obtain ⟨gmPRows, FmPRows, MmPRows, bmPRows⟩ := mPRows.at ["self"] (fun _ _ _ _ _ _ us hl => match us, hl with | [_], _ => rfl)
  obtain ⟨gmPEq, FmPEq, MmPEq, bmPEq⟩ := mPEq.at ["self", "other"] (fun _ _ _ _ _ _ us hl => match us, hl with | [_, _], _ => rfl)
  obtain ⟨gmBInit, FmBInit, MmBInit, bmBInit⟩ := mBInit.at ["self", "entries", "lines"] (fun _ _ _ _ _ _ us hl => match us, hl with | [_, _, _], _ => rfl)
  obtain ⟨gmBEntries, FmBEntries, MmBEntries, bmBEntries⟩ := mBEntries.at ["self"] (fun _ _ _ _ _ _ us hl => match us, hl with | [_], _ => rfl)
  obtain ⟨gmBLines, FmBLines, MmBLines, bmBLines⟩ := mBLines.at ["self"] (fun _ _ _ _ _ _ us hl => match us, hl with | [_], _ => rfl)
  obtain ⟨gmBEq, FmBEq, MmBEq, bmBEq⟩ := mBEq.at ["self", "other"] (fun _ _ _ _ _ _ us hl => match us, hl with | [_, _], _ => rfl)
  obtain ⟨fIsName, gIsName, DIsName, bIsName⟩ := dIsName.at X G ["value"] (fun _ _ _ _ _ _ us hl => match us, hl with | [_], _ => rfl)
  obtain ⟨fAreNames, gAreNames, DAreNames, bAreNames⟩ := dAreNames.at X G ["value"] (fun _ _ _ _ _ _ us hl => match us, hl with | [_], _ => rfl)
  obtain ⟨fAreEntries, gAreEntries, DAreEntries, bAreEntries⟩ := dAreEntries.at X G ["value"] (fun _ _ _ _ _ _ us hl => match us, hl with | [_], _ => rfl)
  obtain ⟨fIsAscending, gIsAscending, DIsAscending, bIsAscending⟩ := dIsAscending.at X G ["value"] (fun _ _ _ _ _ _ us hl => match us, hl with | [_], _ => rfl)
  obtain ⟨fIsLot, gIsLot, DIsLot, bIsLot⟩ := dIsLot.at X G ["value", "entries"] (fun _ _ _ _ _ _ us hl => match us, hl with | [_, _], _ => rfl)
  obtain ⟨fIsField, gIsField, DIsField, bIsField⟩ := dIsField.at X G ["value", "entries"] (fun _ _ _ _ _ _ us hl => match us, hl with | [_, _], _ => rfl)
  obtain ⟨fCheckEntries, gCheckEntries, DCheckEntries, bCheckEntries⟩ := dCheckEntries.at X G ["value"] (fun _ _ _ _ _ _ us hl => match us, hl with | [_], _ => rfl)
  obtain ⟨fSpotsOf, gSpotsOf, DSpotsOf, bSpotsOf⟩ := dSpotsOf.at X G ["row"] (fun _ _ _ _ _ _ us hl => match us, hl with | [_], _ => rfl)
  obtain ⟨fIsRow, gIsRow, DIsRow, bIsRow⟩ := dIsRow.at X G ["value", "entries"] (fun _ _ _ _ _ _ us hl => match us, hl with | [_, _], _ => rfl)
  obtain ⟨fAreRows, gAreRows, DAreRows, bAreRows⟩ := dAreRows.at X G ["value", "entries"] (fun _ _ _ _ _ _ us hl => match us, hl with | [_, _], _ => rfl)
  obtain ⟨fCheckPanel, gCheckPanel, DCheckPanel, bCheckPanel⟩ := dCheckPanel.at X G ["value"] (fun _ _ _ _ _ _ us hl => match us, hl with | [_], _ => rfl)
  obtain ⟨fIsLine, gIsLine, DIsLine, bIsLine⟩ := dIsLine.at X G ["value", "names"] (fun _ _ _ _ _ _ us hl => match us, hl with | [_, _], _ => rfl)
  obtain ⟨fCopied, gCopied, DCopied, bCopied⟩ := dCopied.at X G ["line"] (fun _ _ _ _ _ _ us hl => match us, hl with | [_], _ => rfl)
  obtain ⟨fCheckBook, gCheckBook, DCheckBook, bCheckBook⟩ := dCheckBook.at X G ["value"] (fun _ _ _ _ _ _ us hl => match us, hl with | [_], _ => rfl)
  obtain ⟨fLineOfNames, gLineOfNames, DLineOfNames, bLineOfNames⟩ := dLineOfNames.at X G ["names"] (fun _ _ _ _ _ _ us hl => match us, hl with | [_], _ => rfl)
  obtain ⟨fIsSomeLine, gIsSomeLine, DIsSomeLine, bIsSomeLine⟩ := dIsSomeLine.at X G ["value"] (fun _ _ _ _ _ _ us hl => match us, hl with | [_], _ => rfl)
  obtain ⟨fTextOfLine, gTextOfLine, DTextOfLine, bTextOfLine⟩ := dTextOfLine.at X G ["line"] (fun _ _ _ _ _ _ us hl => match us, hl with | [_], _ => rfl)
  obtain ⟨fIsSomeRound, gIsSomeRound, DIsSomeRound, bIsSomeRound⟩ := dIsSomeRound.at X G ["value"] (fun _ _ _ _ _ _ us hl => match us, hl with | [_], _ => rfl)
  obtain ⟨fNamesText, gNamesText, DNamesText, bNamesText⟩ := dNamesText.at X G ["names"] (fun _ _ _ _ _ _ us hl => match us, hl with | [_], _ => rfl)
  obtain ⟨fPanelText, gPanelText, DPanelText, bPanelText⟩ := dPanelText.at X G ["panel"] (fun _ _ _ _ _ _ us hl => match us, hl with | [_], _ => rfl)
  obtain ⟨fLineText, gLineText, DLineText, bLineText⟩ := dLineText.at X G ["line"] (fun _ _ _ _ _ _ us hl => match us, hl with | [_], _ => rfl)
  obtain ⟨fBookText, gBookText, DBookText, bBookText⟩ := dBookText.at X G ["book"] (fun _ _ _ _ _ _ us hl => match us, hl with | [_], _ => rfl)
  obtain ⟨fRoundsText, gRoundsText, DRoundsText, bRoundsText⟩ := dRoundsText.at X G ["rounds"] (fun _ _ _ _ _ _ us hl => match us, hl with | [_], _ => rfl)
  obtain ⟨fNamesOf, gNamesOf, DNamesOf, bNamesOf⟩ := dNamesOf.at X G ["text"] (fun _ _ _ _ _ _ us hl => match us, hl with | [_], _ => rfl)
  obtain ⟨fPanelOfText, gPanelOfText, DPanelOfText, bPanelOfText⟩ := dPanelOfText.at X G ["text"] (fun _ _ _ _ _ _ us hl => match us, hl with | [_], _ => rfl)
  obtain ⟨fLineOf, gLineOf, DLineOf, bLineOf⟩ := dLineOf.at X G ["text"] (fun _ _ _ _ _ _ us hl => match us, hl with | [_], _ => rfl)
  obtain ⟨fBookOfText, gBookOfText, DBookOfText, bBookOfText⟩ := dBookOfText.at X G ["text"] (fun _ _ _ _ _ _ us hl => match us, hl with | [_], _ => rfl)
  obtain ⟨fRoundOf, gRoundOf, DRoundOf, bRoundOf⟩ := dRoundOf.at X G ["text"] (fun _ _ _ _ _ _ us hl => match us, hl with | [_], _ => rfl)
  obtain ⟨fRoundsOf, gRoundsOf, DRoundsOf, bRoundsOf⟩ := dRoundsOf.at X G ["text"] (fun _ _ _ _ _ _ us hl => match us, hl with | [_], _ => rfl)
  obtain ⟨fReadBy, gReadBy, DReadBy, bReadBy⟩ := dReadBy.at X G ["inner", "text"] (fun _ _ _ _ _ _ us hl => match us, hl with | [_, _], _ => rfl)
  obtain ⟨fReadNames, gReadNames, DReadNames, bReadNames⟩ := dReadNames.at X G ["text"] (fun _ _ _ _ _ _ us hl => match us, hl with | [_], _ => rfl)
  obtain ⟨fReadPanel, gReadPanel, DReadPanel, bReadPanel⟩ := dReadPanel.at X G ["text"] (fun _ _ _ _ _ _ us hl => match us, hl with | [_], _ => rfl)
  obtain ⟨fReadLine, gReadLine, DReadLine, bReadLine⟩ := dReadLine.at X G ["text"] (fun _ _ _ _ _ _ us hl => match us, hl with | [_], _ => rfl)
  obtain ⟨fReadBook, gReadBook, DReadBook, bReadBook⟩ := dReadBook.at X G ["text"] (fun _ _ _ _ _ _ us hl => match us, hl with | [_], _ => rfl)
  obtain ⟨fReadRounds, gReadRounds, DReadRounds, bReadRounds⟩ := dReadRounds.at X G ["text"] (fun _ _ _ _ _ _ us hl => match us, hl with | [_], _ => rfl)
  obtain ⟨fLawPurse, gLawPurse, DLawPurse, bLawPurse⟩ := dLawPurse.at X G ["script", "at"] (fun _ _ _ _ _ _ us hl => match us, hl with | [_, _], _ => rfl)
  obtain ⟨fLawMixed, gLawMixed, DLawMixed, bLawMixed⟩ := dLawMixed.at X G ["seed", "turn", "at"] (fun _ _ _ _ _ _ us hl => match us, hl with | [_, _, _], _ => rfl)
  obtain ⟨fLawDraw, gLawDraw, DLawDraw, bLawDraw⟩ := dLawDraw.at X G ["purse", "many"] (fun _ _ _ _ _ _ us hl => match us, hl with | [_, _], _ => rfl)
  obtain ⟨fLawPurses, gLawPurses, DLawPurses, bLawPurses⟩ := dLawPurses.at X G ["script", "few"] (fun _ _ _ _ _ _ us hl => match us, hl with | [_, _], _ => rfl)
  obtain ⟨fLawOneOf, gLawOneOf, DLawOneOf, bLawOneOf⟩ := dLawOneOf.at X G ["purse", "some"] (fun _ _ _ _ _ _ us hl => match us, hl with | [_, _], _ => rfl)
  obtain ⟨fLawShuffled, gLawShuffled, DLawShuffled, bLawShuffled⟩ := dLawShuffled.at X G ["purse", "some"] (fun _ _ _ _ _ _ us hl => match us, hl with | [_, _], _ => rfl)
  obtain ⟨fLawWord, gLawWord, DLawWord, bLawWord⟩ := dLawWord.at X G ["purse"] (fun _ _ _ _ _ _ us hl => match us, hl with | [_], _ => rfl)
  obtain ⟨fLawRowsOf, gLawRowsOf, DLawRowsOf, bLawRowsOf⟩ := dLawRowsOf.at X G ["purse", "names", "many"] (fun _ _ _ _ _ _ us hl => match us, hl with | [_, _, _], _ => rfl)
  obtain ⟨fLawLine, gLawLine, DLawLine, bLawLine⟩ := dLawLine.at X G ["purse", "names"] (fun _ _ _ _ _ _ us hl => match us, hl with | [_, _], _ => rfl)
  obtain ⟨fLawLineText, gLawLineText, DLawLineText, bLawLineText⟩ := dLawLineText.at X G ["line"] (fun _ _ _ _ _ _ us hl => match us, hl with | [_], _ => rfl)
  obtain ⟨fLawWords, gLawWords, DLawWords, bLawWords⟩ := dLawWords.at X G ["purse", "many"] (fun _ _ _ _ _ _ us hl => match us, hl with | [_, _], _ => rfl)
  obtain ⟨fLawRoundsOf, gLawRoundsOf, DLawRoundsOf, bLawRoundsOf⟩ := dLawRoundsOf.at X G ["purse", "names", "many"] (fun _ _ _ _ _ _ us hl => match us, hl with | [_, _, _], _ => rfl)
  obtain ⟨fLawNamesRight, gLawNamesRight, DLawNamesRight, bLawNamesRight⟩ := dLawNamesRight.at X G ["purse", "names"] (fun _ _ _ _ _ _ us hl => match us, hl with | [_, _], _ => rfl)
  obtain ⟨fLawLinesRight, gLawLinesRight, DLawLinesRight, bLawLinesRight⟩ := dLawLinesRight.at X G ["purse", "names"] (fun _ _ _ _ _ _ us hl => match us, hl with | [_, _], _ => rfl)
  obtain ⟨fLawPanelsRight, gLawPanelsRight, DLawPanelsRight, bLawPanelsRight⟩ := dLawPanelsRight.at X G ["purse", "names"] (fun _ _ _ _ _ _ us hl => match us, hl with | [_, _], _ => rfl)
  obtain ⟨fLawRoundsRight, gLawRoundsRight, DLawRoundsRight, bLawRoundsRight⟩ := dLawRoundsRight.at X G ["purse", "names"] (fun _ _ _ _ _ _ us hl => match us, hl with | [_, _], _ => rfl)
  have OP := mPEq.own oP
  have OB := mBEq.own oB
  obtain ⟨fl, oc, od, kV, dc, pm, an, cd, ct, sl, al, ll, cl, kl⟩ := dLaw
  have e := hfa.symm.trans (PySem.W.mg_of X G al)
  cases e
  have Fl : C8.Fun K "law" "law" sLaw fa (PySem.W.fnOf "law" "law" (C8.fnArgs sLaw) (C8.fnBody sLaw) (C8.fnScope sLaw) .none kV dc pm an cd ct) := ⟨oc, od, .none, kV, dc, pm, an, cd, ct, sl, rfl, ll, cl⟩
  refine ⟨PySem.W.fnOf "law" "law" (C8.fnArgs sLaw) (C8.fnBody sLaw) (C8.fnScope sLaw) .none kV dc pm an cd ct, fun s v => .of_eq rfl, fun base _ _ => ?_⟩
  have c1 := c_is_name (P := P) (w := w) (base := base) DIsName bIsName B (PySem.W.mg_of X G aL)
  have c2 := c_are_names (P := P) (w := w) (base := base) DAreNames bAreNames B c1
  have c3 := c_are_entries (P := P) (w := w) (base := base) DAreEntries bAreEntries c2
  have c4 := c_is_ascending (P := P) (w := w) (base := base) DIsAscending bIsAscending B c2
  have c5 := c_is_lot (P := P) (w := w) (base := base) DIsLot bIsLot c4
  have c6 := c_is_field (P := P) (w := w) (base := base) DIsField bIsField c5
  have c7 := c_check_entries (P := P) (w := w) (base := base) DCheckEntries bCheckEntries c3
  have c8 := c_spots_of (P := P) (w := w) (base := base) DSpotsOf bSpotsOf B
  have c9 := c_is_row (P := P) (w := w) (base := base) DIsRow bIsRow B c2
  have c10 := c_are_rows (P := P) (w := w) (base := base) DAreRows bAreRows B c9
  have p1 := m_panel (P := P) (w := w) (base := base) FmPInit bmPInit ⟨cP.mks, MmPInit.at_, MmPInit.fn, cP.kp⟩ B TP c7 c10 c8
  have p2 := m_panel_rows (P := P) (w := w) (base := base) FmPRows bmPRows MmPRows B TP
  have p3 := k_panel_eq (P := P) (w := w) (base := base) FmPEq B TP
  have c11 := c_check_panel (P := P) (w := w) (base := base) DCheckPanel bCheckPanel B TP
  have c12 := c_is_line (P := P) (w := w) (base := base) DIsLine bIsLine B c6 c1
  have c13 := c_copied (P := P) (w := w) (base := base) DCopied bCopied B
  have q1 := m_book (P := P) (w := w) (base := base) FmBInit bmBInit ⟨cB.mks, MmBInit.at_, MmBInit.fn, cB.kp⟩ B TB c3 c12 c13
  have q2 := m_book_entries (P := P) (w := w) (base := base) FmBEntries bmBEntries MmBEntries B TB
  have q3 := m_book_lines (P := P) (w := w) (base := base) FmBLines bmBLines MmBLines B TB c13
  have q4 := k_book_eq (P := P) (w := w) (base := base) FmBEq B TB
  have c14 := c_check_book (P := P) (w := w) (base := base) DCheckBook bCheckBook B TB
  have hR : mg "repr" = none := PySem.W.mg_none_of X G z_repr
  have p4 := m_panel_entries (P := P) (w := w) (base := base) FmPEntries bmPEntries MmPEntries B TP
  have c15 := c_line_of_names (P := P) (w := w) (base := base) DLineOfNames bLineOfNames
  have c15b := c_line_of_names2 (P := P) (w := w) (base := base) DLineOfNames bLineOfNames
  have c16 := c_is_some_line (P := P) (w := w) (base := base) DIsSomeLine bIsSomeLine B c4 c1
  have c16b := c_is_some_round (P := P) (w := w) (base := base) DIsSomeRound bIsSomeRound B c4
  have c17 := c_text_of_line (P := P) (w := w) (base := base) DTextOfLine bTextOfLine c15
  have c18 := c_panel_text (P := P) (w := w) (base := base) DPanelText bPanelText c11 p2 c15
  have c19 := c_line_text (P := P) (w := w) (base := base) DLineText bLineText c16 c17
  have c20 := c_book_text (P := P) (w := w) (base := base) DBookText bBookText c14 q2 q3 c15 c17
  have c20n := c_names_text (P := P) (w := w) (base := base) DNamesText bNamesText B c1 c15b
  have c20r := c_rounds_text (P := P) (w := w) (base := base) DRoundsText bRoundsText B c16b c15b
  have c21 := c_names_of (P := P) (w := w) (base := base) DNamesOf bNamesOf c1
  have c21f := c_names_ofF (P := P) (w := w) (base := base) DNamesOf bNamesOf c1
  have c22 := c_panel_of_text (P := P) (w := w) (base := base) DPanelOfText bPanelOfText B c21 p1
  have c23 := c_line_of (P := P) (w := w) (base := base) DLineOf bLineOf c21 c16
  have c23f := c_line_ofF (P := P) (w := w) (base := base) DLineOf bLineOf c21f c16
  have c24 := c_book_of_text (P := P) (w := w) (base := base) DBookOfText bBookOfText c21 c23 q1 q2 q3
  have c24a := c_round_ofF (P := P) (w := w) (base := base) DRoundOf bRoundOf c21f c16b
  have c24b := c_rounds_ofF (P := P) (w := w) (base := base) DRoundsOf bRoundsOf c24a
  have r1 := c_read_by (g := fun t => ((panelOfText CP t).getD ⟨[], []⟩)) (P := P) (w := w) (base := base) DReadBy bReadBy B (cal_at c22 DPanelOfText.mgf)
  have r2 := c_read_byF (g := fun t => ((lineOf t).getD ⟨"", [], ""⟩)) (P := P) (w := w) (base := base) DReadBy bReadBy B (cal_at c23f DLineOf.mgf)
  have r3 := c_read_by (g := fun t => ((bookOfText CB t).getD ⟨[], []⟩)) (P := P) (w := w) (base := base) DReadBy bReadBy B (cal_at c24 DBookOfText.mgf)
  have r4 := c_read_byF (g := fun t => (namesOf t).getD []) (P := P) (w := w) (base := base) DReadBy bReadBy B (cal_at (cal_some c21f) DNamesOf.mgf)
  have r5 := c_read_byF (g := fun t => ((roundsOf t).getD [])) (P := P) (w := w) (base := base) DReadBy bReadBy B (cal_at c24b DRoundsOf.mgf)
  have c25 := c_read_panel (P := P) (w := w) (base := base) DReadPanel bReadPanel DPanelOfText.mgf r1
  have c26 := c_read_lineF (P := P) (w := w) (base := base) DReadLine bReadLine DLineOf.mgf r2
  have c27 := c_read_book (P := P) (w := w) (base := base) DReadBook bReadBook DBookOfText.mgf r3
  have c28 := c_read_namesF (P := P) (w := w) (base := base) DReadNames bReadNames DNamesOf.mgf r4
  have c29 := c_read_roundsF (P := P) (w := w) (base := base) DReadRounds bReadRounds DRoundsOf.mgf r5
  have d1 := c_law_purse (P := P) (w := w) (base := base) DLawPurse bLawPurse B
  have d2 := c_law_mixed (P := P) (w := w) (base := base) DLawMixed bLawMixed
  have d3 := c_law_draw (P := P) (w := w) (base := base) DLawDraw bLawDraw B d2
  have d4 := c_purses (P := P) (w := w) (base := base) DLawPurses bLawPurses B d1
  have d5 := c_shuffled (α := Str) (P := P) (w := w) (base := base) DLawShuffled bLawShuffled B d3
  have d6 := c_shuffled (α := Ln) (P := P) (w := w) (base := base) DLawShuffled bLawShuffled B d3
  have d6o := c_one_of (α := Str) (P := P) (w := w) (base := base) DLawOneOf bLawOneOf B d3
  have d7 := c_word (P := P) (w := w) (base := base) DLawWord bLawWord B d3
  have d8 := c_words (P := P) (w := w) (base := base) DLawWords bLawWords B d7 d5
  have d9 := c_line (P := P) (w := w) (base := base) DLawLine bLawLine B d3 d5 d6o
  have d10 := c_line_text2 (P := P) (w := w) (base := base) DLawLineText bLawLineText
  have d11 := c_rounds_law (P := P) (w := w) (base := base) DLawRoundsOf bLawRoundsOf B d3 d5
  have d12 := c_rows_law (P := P) (w := w) (base := base) DLawRowsOf bLawRowsOf B d3 d5
  have e0 := c_names_right (P := P) (w := w) (base := base) DLawNamesRight bLawNamesRight B hR d3 d6o c20n c28
  have e1 := c_lines_right (P := P) (w := w) (base := base) DLawLinesRight bLawLinesRight B hR OB q4 bmBEq d3 d5 d6 d9 d10 q1 c19 c26 c20 c27 q2 q3
  have e2 := c_panels_right (P := P) (w := w) (base := base) DLawPanelsRight bLawPanelsRight B hR OP p3 bmPEq d3 d5 d12 p1 c18 c25 p4 p2
  have e3 := c_rounds_right (P := P) (w := w) (base := base) DLawRoundsRight bLawRoundsRight B hR d3 d11 c20r c29
  exact law_fn Fl B OB q4 bmBEq OP p3 bmPEq d4 d8 d3 p1 q1 c18 c25 c20 c27 c26 e0 e1 e2 e3
theorem walk {l : PySem.W.OpenLaw} {q : Program} {loose : List Str} {XP : (Str → Option Value) → Heap → Prop} {YP : World → Heap → Prop} {d : DefRec} {K : Params → PySem.W.Frag} (hn : l.most = some 63) (hdf : d.params.defaults = [])
    (hY : ∀ (w : World) (h : Heap), YP w h → (K w.params).In h)
    (F : ∀ (w : World) (mg : Str → Option Value) (fa : Addr) (h : Heap), (K w.params).In h → h.Ns mainGlobals mg → mg d.name = some (.ref fa) →
      ∃ fd : FuncData, (∀ (s : Shared) (u : Value), BindsTo s fd ⟨[u], []⟩ [("script", u)]) ∧ ∀ base : Heap, (K w.params).In base → base.Ns mainGlobals mg → FnG l.prog w (K w.params) mg base 13 fa fd ["script"] (PLaw (K w.params))) :
    PySem.W.WalkO q loose XP YP l.row.toRowW d [] (fun f vs => PySem.call f vs) :=
  walk_ofG (n := 63) (k := 13) (x := "script") (sp := fun w => PLaw (K w.params)) hn (by decide) hdf ⟨rfl, by decide, by decide⟩ hY F (fun _ H a ns hl hS => ⟨H, .ref a, ⟨ns⟩, rfl, Same.refl H, ⟨a, rfl, hS⟩, fun _ => rfl⟩)
end T91

open PySem PySem.W PyProof.Rows
set_option maxRecDepth 100000 in
set_option maxHeartbeats 0 in
theorem PySem.Challenge.cw_panelfairs_k91_whole_texts_there_and_bac_holds : PySem.Challenge.rw_panelfairs_k91_whole_texts_there_and_bac.Holds := by
  w_on; o_law; k_head; (case hw => w_witness2)
  k_fill
  refine T91.walk (l := PySem.Challenge.rw_panelfairs_k91_whole_texts_there_and_bac) rfl rfl (fun w h Y => PySem.W.kIn_of Y) ?F
  case F =>
    intro w mg fa h KX G hmg
    refine' T91.all_mk KX G hmg ?aL ?cP ?cB ?mPInit ?mPEntries ?mPRows ?mPEq ?mBInit ?mBEntries ?mBLines ?mBEq ?nP_names ?nP_orders ?nP_spots ?nB_names ?nB_told ?oP ?oB ?dIsName ?dAreNames ?dAreEntries ?dIsAscending ?dIsLot ?dIsField ?dCheckEntries ?dSpotsOf ?dIsRow ?dAreRows ?dCheckPanel ?dIsLine ?dCopied ?dCheckBook ?dLineOfNames ?dIsSomeLine ?dTextOfLine ?dIsSomeRound ?dNamesText ?dPanelText ?dLineText ?dBookText ?dRoundsText ?dNamesOf ?dPanelOfText ?dLineOf ?dBookOfText ?dRoundOf ?dRoundsOf ?dReadBy ?dReadNames ?dReadPanel ?dReadLine ?dReadBook ?dReadRounds ?dLawPurse ?dLawMixed ?dLawDraw ?dLawPurses ?dLawOneOf ?dLawShuffled ?dLawWord ?dLawRowsOf ?dLawLine ?dLawLineText ?dLawWords ?dLawRoundsOf ?dLawNamesRight ?dLawLinesRight ?dLawPanelsRight ?dLawRoundsRight ?dLaw ?z_isinstance ?z_len ?z_set ?z_list ?z_dict ?z_tuple ?z_str ?z_int ?z_bool ?z_sorted ?z_range ?z_enumerate ?z_zip ?z_sum ?z_max ?z_min ?z_repr
    (case aL => k_is)
    case cP =>
      refine' T91.ClsAt.mk ?aC ?pg ?hd ?po ?sa ?mks ?kp ?ha ?hn ?htk ?hm
      (case aC => k_is)
      (case pg => k_is)
      (case hd => k_is)
      (case po => k_is)
      (case sa => k_is)
      (case mks => k_is)
      (case kp => k_is)
      (case ha => k_is)
      (case hn => k_is)
      (case htk => k_is)
      (case hm => k_is)
    case cB =>
      refine' T91.ClsAt.mk ?aC ?pg ?hd ?po ?sa ?mks ?kp ?ha ?hn ?htk ?hm
      (case aC => k_is)
      (case pg => k_is)
      (case hd => k_is)
      (case po => k_is)
      (case sa => k_is)
      (case mks => k_is)
      (case kp => k_is)
      (case ha => k_is)
      (case hn => k_is)
      (case htk => k_is)
      (case hm => k_is)
    case mPInit =>
      refine' T91.MethAt.of ?a ?i ?l ?c ?k
      (case a => k_is)
      (case i => k_is)
      (case l => k_is)
      (case c => k_is)
      (case k => k_is)
    case mPEntries =>
      refine' T91.MethAt.of ?a ?i ?l ?c ?k
      (case a => k_is)
      (case i => k_is)
      (case l => k_is)
      (case c => k_is)
      (case k => k_is)
    case mPRows =>
      refine' T91.MethAt.of ?a ?i ?l ?c ?k
      (case a => k_is)
      (case i => k_is)
      (case l => k_is)
      (case c => k_is)
      (case k => k_is)
    case mPEq =>
      refine' T91.MethAt.of ?a ?i ?l ?c ?k
      (case a => k_is)
      (case i => k_is)
      (case l => k_is)
      (case c => k_is)
      (case k => k_is)
    case mBInit =>
      refine' T91.MethAt.of ?a ?i ?l ?c ?k
      (case a => k_is)
      (case i => k_is)
      (case l => k_is)
      (case c => k_is)
      (case k => k_is)
    case mBEntries =>
      refine' T91.MethAt.of ?a ?i ?l ?c ?k
      (case a => k_is)
      (case i => k_is)
      (case l => k_is)
      (case c => k_is)
      (case k => k_is)
    case mBLines =>
      refine' T91.MethAt.of ?a ?i ?l ?c ?k
      (case a => k_is)
      (case i => k_is)
      (case l => k_is)
      (case c => k_is)
      (case k => k_is)
    case mBEq =>
      refine' T91.MethAt.of ?a ?i ?l ?c ?k
      (case a => k_is)
      (case i => k_is)
      (case l => k_is)
      (case c => k_is)
      (case k => k_is)
    (case nP_names => k_is)
    (case nP_orders => k_is)
    (case nP_spots => k_is)
    (case nB_names => k_is)
    (case nB_told => k_is)
    case oP =>
      refine' T91.OwnAt.of ?x ?y ?z ?n ?r
      (case x => k_is)
      (case y => k_is)
      (case z => k_is)
      (case n => k_is)
      (case r => first | rfl | simp)
    case oB =>
      refine' T91.OwnAt.of ?x ?y ?z ?n ?r
      (case x => k_is)
      (case y => k_is)
      (case z => k_is)
      (case n => k_is)
      (case r => first | rfl | simp)
    case dIsName =>
      refine' T91.DefAt.of ?a ?l ?c ?k
      (case a => k_is)
      (case l => k_is)
      (case c => k_is)
      (case k => k_is)
    case dAreNames =>
      refine' T91.DefAt.of ?a ?l ?c ?k
      (case a => k_is)
      (case l => k_is)
      (case c => k_is)
      (case k => k_is)
    case dAreEntries =>
      refine' T91.DefAt.of ?a ?l ?c ?k
      (case a => k_is)
      (case l => k_is)
      (case c => k_is)
      (case k => k_is)
    case dIsAscending =>
      refine' T91.DefAt.of ?a ?l ?c ?k
      (case a => k_is)
      (case l => k_is)
      (case c => k_is)
      (case k => k_is)
    case dIsLot =>
      refine' T91.DefAt.of ?a ?l ?c ?k
      (case a => k_is)
      (case l => k_is)
      (case c => k_is)
      (case k => k_is)
    case dIsField =>
      refine' T91.DefAt.of ?a ?l ?c ?k
      (case a => k_is)
      (case l => k_is)
      (case c => k_is)
      (case k => k_is)
    case dCheckEntries =>
      refine' T91.DefAt.of ?a ?l ?c ?k
      (case a => k_is)
      (case l => k_is)
      (case c => k_is)
      (case k => k_is)
    case dSpotsOf =>
      refine' T91.DefAt.of ?a ?l ?c ?k
      (case a => k_is)
      (case l => k_is)
      (case c => k_is)
      (case k => k_is)
    case dIsRow =>
      refine' T91.DefAt.of ?a ?l ?c ?k
      (case a => k_is)
      (case l => k_is)
      (case c => k_is)
      (case k => k_is)
    case dAreRows =>
      refine' T91.DefAt.of ?a ?l ?c ?k
      (case a => k_is)
      (case l => k_is)
      (case c => k_is)
      (case k => k_is)
    case dCheckPanel =>
      refine' T91.DefAt.of ?a ?l ?c ?k
      (case a => k_is)
      (case l => k_is)
      (case c => k_is)
      (case k => k_is)
    case dIsLine =>
      refine' T91.DefAt.of ?a ?l ?c ?k
      (case a => k_is)
      (case l => k_is)
      (case c => k_is)
      (case k => k_is)
    case dCopied =>
      refine' T91.DefAt.of ?a ?l ?c ?k
      (case a => k_is)
      (case l => k_is)
      (case c => k_is)
      (case k => k_is)
    case dCheckBook =>
      refine' T91.DefAt.of ?a ?l ?c ?k
      (case a => k_is)
      (case l => k_is)
      (case c => k_is)
      (case k => k_is)
    case dLineOfNames =>
      refine' T91.DefAt.of ?a ?l ?c ?k
      (case a => k_is)
      (case l => k_is)
      (case c => k_is)
      (case k => k_is)
    case dIsSomeLine =>
      refine' T91.DefAt.of ?a ?l ?c ?k
      (case a => k_is)
      (case l => k_is)
      (case c => k_is)
      (case k => k_is)
    case dTextOfLine =>
      refine' T91.DefAt.of ?a ?l ?c ?k
      (case a => k_is)
      (case l => k_is)
      (case c => k_is)
      (case k => k_is)
    case dIsSomeRound =>
      refine' T91.DefAt.of ?a ?l ?c ?k
      (case a => k_is)
      (case l => k_is)
      (case c => k_is)
      (case k => k_is)
    case dNamesText =>
      refine' T91.DefAt.of ?a ?l ?c ?k
      (case a => k_is)
      (case l => k_is)
      (case c => k_is)
      (case k => k_is)
    case dPanelText =>
      refine' T91.DefAt.of ?a ?l ?c ?k
      (case a => k_is)
      (case l => k_is)
      (case c => k_is)
      (case k => k_is)
    case dLineText =>
      refine' T91.DefAt.of ?a ?l ?c ?k
      (case a => k_is)
      (case l => k_is)
      (case c => k_is)
      (case k => k_is)
    case dBookText =>
      refine' T91.DefAt.of ?a ?l ?c ?k
      (case a => k_is)
      (case l => k_is)
      (case c => k_is)
      (case k => k_is)
    case dRoundsText =>
      refine' T91.DefAt.of ?a ?l ?c ?k
      (case a => k_is)
      (case l => k_is)
      (case c => k_is)
      (case k => k_is)
    case dNamesOf =>
      refine' T91.DefAt.of ?a ?l ?c ?k
      (case a => k_is)
      (case l => k_is)
      (case c => k_is)
      (case k => k_is)
    case dPanelOfText =>
      refine' T91.DefAt.of ?a ?l ?c ?k
      (case a => k_is)
      (case l => k_is)
      (case c => k_is)
      (case k => k_is)
    case dLineOf =>
      refine' T91.DefAt.of ?a ?l ?c ?k
      (case a => k_is)
      (case l => k_is)
      (case c => k_is)
      (case k => k_is)
    case dBookOfText =>
      refine' T91.DefAt.of ?a ?l ?c ?k
      (case a => k_is)
      (case l => k_is)
      (case c => k_is)
      (case k => k_is)
    case dRoundOf =>
      refine' T91.DefAt.of ?a ?l ?c ?k
      (case a => k_is)
      (case l => k_is)
      (case c => k_is)
      (case k => k_is)
    case dRoundsOf =>
      refine' T91.DefAt.of ?a ?l ?c ?k
      (case a => k_is)
      (case l => k_is)
      (case c => k_is)
      (case k => k_is)
    case dReadBy =>
      refine' T91.DefAt.of ?a ?l ?c ?k
      (case a => k_is)
      (case l => k_is)
      (case c => k_is)
      (case k => k_is)
    case dReadNames =>
      refine' T91.DefAt.of ?a ?l ?c ?k
      (case a => k_is)
      (case l => k_is)
      (case c => k_is)
      (case k => k_is)
    case dReadPanel =>
      refine' T91.DefAt.of ?a ?l ?c ?k
      (case a => k_is)
      (case l => k_is)
      (case c => k_is)
      (case k => k_is)
    case dReadLine =>
      refine' T91.DefAt.of ?a ?l ?c ?k
      (case a => k_is)
      (case l => k_is)
      (case c => k_is)
      (case k => k_is)
    case dReadBook =>
      refine' T91.DefAt.of ?a ?l ?c ?k
      (case a => k_is)
      (case l => k_is)
      (case c => k_is)
      (case k => k_is)
    case dReadRounds =>
      refine' T91.DefAt.of ?a ?l ?c ?k
      (case a => k_is)
      (case l => k_is)
      (case c => k_is)
      (case k => k_is)
    case dLawPurse =>
      refine' T91.DefAt.of ?a ?l ?c ?k
      (case a => k_is)
      (case l => k_is)
      (case c => k_is)
      (case k => k_is)
    case dLawMixed =>
      refine' T91.DefAt.of ?a ?l ?c ?k
      (case a => k_is)
      (case l => k_is)
      (case c => k_is)
      (case k => k_is)
    case dLawDraw =>
      refine' T91.DefAt.of ?a ?l ?c ?k
      (case a => k_is)
      (case l => k_is)
      (case c => k_is)
      (case k => k_is)
    case dLawPurses =>
      refine' T91.DefAt.of ?a ?l ?c ?k
      (case a => k_is)
      (case l => k_is)
      (case c => k_is)
      (case k => k_is)
    case dLawOneOf =>
      refine' T91.DefAt.of ?a ?l ?c ?k
      (case a => k_is)
      (case l => k_is)
      (case c => k_is)
      (case k => k_is)
    case dLawShuffled =>
      refine' T91.DefAt.of ?a ?l ?c ?k
      (case a => k_is)
      (case l => k_is)
      (case c => k_is)
      (case k => k_is)
    case dLawWord =>
      refine' T91.DefAt.of ?a ?l ?c ?k
      (case a => k_is)
      (case l => k_is)
      (case c => k_is)
      (case k => k_is)
    case dLawRowsOf =>
      refine' T91.DefAt.of ?a ?l ?c ?k
      (case a => k_is)
      (case l => k_is)
      (case c => k_is)
      (case k => k_is)
    case dLawLine =>
      refine' T91.DefAt.of ?a ?l ?c ?k
      (case a => k_is)
      (case l => k_is)
      (case c => k_is)
      (case k => k_is)
    case dLawLineText =>
      refine' T91.DefAt.of ?a ?l ?c ?k
      (case a => k_is)
      (case l => k_is)
      (case c => k_is)
      (case k => k_is)
    case dLawWords =>
      refine' T91.DefAt.of ?a ?l ?c ?k
      (case a => k_is)
      (case l => k_is)
      (case c => k_is)
      (case k => k_is)
    case dLawRoundsOf =>
      refine' T91.DefAt.of ?a ?l ?c ?k
      (case a => k_is)
      (case l => k_is)
      (case c => k_is)
      (case k => k_is)
    case dLawNamesRight =>
      refine' T91.DefAt.of ?a ?l ?c ?k
      (case a => k_is)
      (case l => k_is)
      (case c => k_is)
      (case k => k_is)
    case dLawLinesRight =>
      refine' T91.DefAt.of ?a ?l ?c ?k
      (case a => k_is)
      (case l => k_is)
      (case c => k_is)
      (case k => k_is)
    case dLawPanelsRight =>
      refine' T91.DefAt.of ?a ?l ?c ?k
      (case a => k_is)
      (case l => k_is)
      (case c => k_is)
      (case k => k_is)
    case dLawRoundsRight =>
      refine' T91.DefAt.of ?a ?l ?c ?k
      (case a => k_is)
      (case l => k_is)
      (case c => k_is)
      (case k => k_is)
    case dLaw =>
      refine' T91.DefAt.of ?a ?l ?c ?k
      (case a => k_is)
      (case l => k_is)
      (case c => k_is)
      (case k => k_is)
    (case z_isinstance => k_is)
    (case z_len => k_is)
    (case z_set => k_is)
    (case z_list => k_is)
    (case z_dict => k_is)
    (case z_tuple => k_is)
    (case z_str => k_is)
    (case z_int => k_is)
    (case z_bool => k_is)
    (case z_sorted => k_is)
    (case z_range => k_is)
    (case z_enumerate => k_is)
    (case z_zip => k_is)
    (case z_sum => k_is)
    (case z_max => k_is)
    (case z_min => k_is)
    (case z_repr => k_is)

