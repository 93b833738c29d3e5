import PyProof.Rows.All
import Wide.All
import OpenK.AllK
import Wide.FinOn
import HandS.ForMost
import HandS.Walk
import HandS.IsInst
import HandS.Deep
import HandS.OwnEq
import HandS.Codes
import HandS.Exc
import HandS.CallLocal
import HandS.Style
import HandS.WideBits
import HandS.More
import HandS.TryOnly
import HandS.Strs
import KE.SortData
import PyProof.ReprRoads
import PyProof.P3In
import PyProof.Rows.InDataRows
import PyProof.StrLawsRepr
import HandS.FStrTup
import HandS.Set
import HandS.Star
import HandS.Conv
import HandS.Nested
import HandS.ExcInit
import HandS.ExcField
import KE.KExcSuper
import HandS.Defaults
import HandS.ExcOwn
import HandS.WordsExc
import HandS.ExcIs
import KE.KExcIs
import HandS.DictComp
import HandS.ListItems
import PySem.Challenge.RW_panelfairs_k82_whole_verdicts
set_option Elab.async false
set_option linter.all false
set_option maxRecDepth 100000
set_option maxHeartbeats 4000000
/-! The second layer: typed data over the abstract heap. -/
namespace D1
open PySem L2

/-- data of type α lies at the value v, in the heap's standing part -/
class Rp (α : Type) where
  rp : Hp → V → α → Prop
  rup : ∀ {H H' : Hp} {v : V} {a : α}, Same H H' → rp H v a → rp H' v a
open Rp

instance : Rp Int := ⟨fun _ v i => v = .int i, fun _ h => h⟩
instance : Rp Bool := ⟨fun _ v i => v = .bl i, fun _ h => h⟩
instance : Rp Str := ⟨fun _ v i => v = .str i, fun _ h => h⟩
instance : Rp Unit := ⟨fun _ v _ => v = .non, fun _ h => h⟩
theorem pmono {α β : Type} {F G : α → β → Prop} {l₁ : List α} {l₂ : List β} (h : Paired F l₁ l₂) (f : ∀ a b, F a b → G a b) : Paired G l₁ l₂ := Paired.mapP h f
instance {α : Type} [Rp α] : Rp (List α) := ⟨fun H v as => ∃ p xs, v = .ref p ∧ H p = some (.lst xs) ∧ Paired (rp H) xs as,
  fun s ⟨p, xs, e, h, q⟩ => ⟨p, xs, e, s _ _ h, pmono q fun _ _ => rup s⟩⟩
instance {α β : Type} [Rp α] [Rp β] : Rp (α × β) := ⟨fun H v ab => ∃ p x y, v = .ref p ∧ H p = some (.tup [x, y]) ∧ rp H x ab.1 ∧ rp H y ab.2,
  fun s ⟨p, x, y, e, h, q, r⟩ => ⟨p, x, y, e, s _ _ h, rup s q, rup s r⟩⟩
/-- a tuple of three -/
structure T3 (α β γ : Type) where
  a : α
  b : β
  c : γ
  deriving DecidableEq
instance {α β γ : Type} [Rp α] [Rp β] [Rp γ] : Rp (T3 α β γ) := ⟨fun H v t => ∃ p x y z, v = .ref p ∧ H p = some (.tup [x, y, z]) ∧ rp H x t.a ∧ rp H y t.b ∧ rp H z t.c,
  fun s ⟨p, x, y, z, e, h, q, r, u⟩ => ⟨p, x, y, z, e, s _ _ h, rup s q, rup s r, rup s u⟩⟩
instance {α : Type} [Rp α] : Rp (Option α) := ⟨fun H v o => match o with
  | none => v = .non
  | some a => rp H v a, fun {H H' v o} s h => by
  cases o with
  | none => exact h
  | some a => exact rup (α := α) s h⟩

/-- growth: G the standing part of H; M: what may have been written -/
structure GrM (M : Addr → Prop) (G H G' H' : Hp) : Prop where
  g : Same G G'
  h : ∀ b o, ¬ M b → H b = some o → H' b = some o
  s : Same G' H'
  f : ∀ b, G b = none → H b ≠ none → G' b = none
  d : ∀ b, H b ≠ none → H' b ≠ none
def M0 : Addr → Prop := fun _ => False
abbrev Gr := GrM M0
theorem Gr.hh {G H G' H' : Hp} (r : Gr G H G' H') : Same H H' := fun b o e => r.h b o (fun z => z) e
theorem GrM.refl {M : Addr → Prop} {G H : Hp} (s : Same G H) : GrM M G H G H := ⟨Same.refl G, fun _ _ _ e => e, s, fun _ e _ => e, fun _ e => e⟩
theorem GrM.trans {M : Addr → Prop} {G H G1 H1 G2 H2 : Hp} (a : GrM M G H G1 H1) (b : GrM M G1 H1 G2 H2) : GrM M G H G2 H2 :=
  ⟨a.g.trans b.g, fun c o m e => b.h c o m (a.h c o m e), b.s, fun c e n => b.f c (a.f c e n) (a.d c n), fun c n => b.d c (a.d c n)⟩
theorem GrM.mono {M N : Addr → Prop} {G H G1 H1 : Hp} (a : GrM M G H G1 H1) (h : ∀ b, M b → N b) : GrM N G H G1 H1 :=
  ⟨a.g, fun c o m e => a.h c o (fun z => m (h c z)) e, a.s, a.f, a.d⟩
theorem Gr.any {M : Addr → Prop} {G H G1 H1 : Hp} (a : Gr G H G1 H1) : GrM M G H G1 H1 := a.mono fun _ z => z.elim
theorem same_new {H : Hp} {p : Addr} {o : HO} (h : H p = none) : Same H (upd H p o) := fun a u e => by
  rw [upd_ne (ne_of_none e h)]; exact e
theorem upd_some {H : Hp} {p b : Addr} {o : HO} (h : H b ≠ none) : upd H p o b ≠ none := by
  unfold upd; split
  · exact fun z => by cases z
  · exact h
/-- a new standing object -/
theorem Gr.new {G H : Hp} {p : Addr} {o : HO} (s : Same G H) (h : H p = none) : Gr G H (upd G p o) (upd H p o) := by
  refine ⟨same_new (s.free h), fun b u _ e => ?_, fun b u e => ?_, fun b e n => ?_, fun b => upd_some⟩
  · rw [upd_ne (ne_of_none e h)]; exact e
  · unfold upd at e ⊢
    split
    · rename_i z; rw [if_pos z] at e; exact e
    · rename_i z; rw [if_neg z] at e; exact s b u e
  · rw [upd_ne (fun z => n (by rw [z]; exact h))]; exact e
/-- a new object that is not (yet) standing -/
theorem Gr.newM {G H : Hp} {p : Addr} {o : HO} (s : Same G H) (h : H p = none) : Gr G H G (upd H p o) := by
  refine ⟨Same.refl G, fun b u _ e => ?_, fun b u e => ?_, fun b e n => e, fun b => upd_some⟩
  · rw [upd_ne (ne_of_none e h)]; exact e
  · rw [upd_ne (ne_of_none (s b u e) h)]; exact s b u e
/-- a write to what is not standing -/
theorem GrM.put {M : Addr → Prop} {G H : Hp} {p : Addr} {o : HO} (s : Same G H) (h : G p = none) (m : M p) : GrM M G H G (upd H p o) := by
  refine ⟨Same.refl G, fun b u m' e => ?_, fun b u e => ?_, fun b e n => e, fun b => upd_some⟩
  · rw [upd_ne (fun z => m' (by rw [z]; exact m))]; exact e
  · rw [upd_ne (ne_of_none e h)]; exact s b u e

/-! ### weakest preconditions -/
def WE (X : Cx) (e : Expr) : TE := fun σ H Q => ∀ pins s, Inv X pins σ H s → wpAny (model X.prog X.w) X.A (eval e X.env) (EP X pins σ Q) X.xe s
def WT (X : Cx) (e : Expr) : TT := fun σ H Q => ∀ pins s, Inv X pins σ H s → wpAny (model X.prog X.w) X.A (isTrue e X.env (eval e X.env)) (TP X pins σ Q) X.xe s
def WW (X : Cx) (e : Expr) : TT := fun σ H Q => ∀ whole pins s, Inv X pins σ H s → wpAny (model X.prog X.w) X.A (isTrue e X.env whole) (TP X pins σ Q) X.xe s
def WS (X : Cx) (st : List Stmt) : TS := fun D σ H => ∀ pins s, Inv X pins σ H s → wpAny (model X.prog X.w) X.A (execs st X.env) (SP X pins D) X.xe s
theorem pe_we {X : Cx} {e : Expr} : PE X e (WE X e) := ⟨fun pins s _ _ _ I h => h pins s I⟩
theorem pt_wt {X : Cx} {e : Expr} : PT X e (WT X e) := ⟨fun pins s _ _ _ I h => h pins s I⟩
theorem pw_ww {X : Cx} {e : Expr} : PW X e (WW X e) := ⟨fun wh pins s _ _ _ I h => h wh pins s I⟩
theorem pss_ws {X : Cx} {st : List Stmt} : PSs X st (WS X st) := ⟨fun pins s _ _ _ I h => h pins s I⟩
theorem WE.of {X : Cx} {e : Expr} {t : TE} (h : PE X e t) {σ : St} {H : Hp} {Q : VK} (q : t σ H Q) : WE X e σ H Q := fun pins s I => h.run pins s σ H Q I q
theorem WT.of {X : Cx} {e : Expr} {t : TT} (h : PT X e t) {σ : St} {H : Hp} {Q : Bool → Hp → Prop} (q : t σ H Q) : WT X e σ H Q := fun pins s I => h.run pins s σ H Q I q
theorem WW.of {X : Cx} {e : Expr} {t : TT} (h : PW X e t) {σ : St} {H : Hp} {Q : Bool → Hp → Prop} (q : t σ H Q) : WW X e σ H Q := fun wh pins s I => h.run wh pins s σ H Q I q
theorem WS.of {X : Cx} {st : List Stmt} {t : TS} (h : PSs X st t) {σ : St} {H : Hp} {D : Ends} (q : t D σ H) : WS X st D σ H := fun pins s I => h.run pins s σ H D I q

/-! ### evaluation to data -/
def Ev {α : Type} [Rp α] (X : Cx) (e : Expr) (σ : St) (G : Hp) (a : α) : Prop :=
  ∀ G1 H1 (Q : VK), Same G G1 → Same G1 H1 → (∀ G2 H2 v, Gr G1 H1 G2 H2 → rp G2 v a → Q v H2) → WE X e σ H1 Q
def ET (X : Cx) (e : Expr) (σ : St) (G : Hp) (b : Bool) : Prop :=
  ∀ G1 H1 (Q : Bool → Hp → Prop), Same G G1 → Same G1 H1 → (∀ G2 H2, Gr G1 H1 G2 H2 → Q b H2) → WT X e σ H1 Q
def EW (X : Cx) (e : Expr) (σ : St) (G : Hp) (b : Bool) : Prop :=
  ∀ G1 H1 (Q : Bool → Hp → Prop), Same G G1 → Same G1 H1 → (∀ G2 H2, Gr G1 H1 G2 H2 → Q b H2) → WW X e σ H1 Q
theorem Ev.up {α : Type} [Rp α] {X : Cx} {e : Expr} {σ : St} {G G' : Hp} {a : α} (s : Same G G') (h : Ev X e σ G a) : Ev X e σ G' a := fun G1 H1 Q s1 => h G1 H1 Q (s.trans s1)
theorem ET.up {X : Cx} {e : Expr} {σ : St} {G G' : Hp} {a : Bool} (s : Same G G') (h : ET X e σ G a) : ET X e σ G' a := fun G1 H1 Q s1 => h G1 H1 Q (s.trans s1)
theorem EW.t {X : Cx} {e : Expr} {σ : St} {G : Hp} {a : Bool} (h : EW X e σ G a) : ET X e σ G a := fun G1 H1 Q s1 s2 k pins s I => h G1 H1 Q s1 s2 k _ pins s I

section
variable {α β γ : Type} [Rp α] [Rp β] [Rp γ] {X : Cx} {e a b c : Expr} {σ : St} {G : Hp} {pos : Pos}
theorem Ev.v (i : Nat) {x : Str} {v : V} {d : α} (h : σ[i]? = some (some v)) (r : rp G v d) (hN : X.N[i]? = some x := by rfl) (hv : Vis X.env.scope x := by first | exact Or.inl rfl | exact Or.inr (Or.inl rfl) | exact Or.inr (Or.inr rfl)) (hd : (x == ("__debug__" : Str)) = false := by decide)
    (hcd : (x == ("__classdict__" : Str)) = false := by decide) : Ev X (.Name x pos) σ G d := fun G1 H1 Q s1 s2 k =>
  WE.of (pv i hN hv hd hcd) ⟨v, h, k G1 H1 v (GrM.refl s2) (rup s1 r)⟩
theorem Ev.int {i j} : Ev X (.Constant (.int i) j pos) σ G (i : Int) := fun G1 H1 Q s1 s2 k => WE.of pe_int (k G1 H1 _ (GrM.refl s2) rfl)
theorem Ev.bl {i j} : Ev X (.Constant (.bool i) j pos) σ G (i : Bool) := fun G1 H1 Q s1 s2 k => WE.of pe_bl (k G1 H1 _ (GrM.refl s2) rfl)
theorem Ev.str {i j} : Ev X (.Constant (.str i) j pos) σ G (i : Str) := fun G1 H1 Q s1 s2 k => WE.of pe_str (k G1 H1 _ (GrM.refl s2) rfl)
theorem Ev.non {j} : Ev X (.Constant .none j pos) σ G () := fun G1 H1 Q s1 s2 k => WE.of pe_non (k G1 H1 _ (GrM.refl s2) rfl)
/-- a value as an option -/
theorem Ev.opt {d : α} (h : Ev X e σ G d) : Ev X e σ G (Option.some d) := fun G1 H1 Q s1 s2 k => h G1 H1 Q s1 s2 fun G2 H2 v g r => k G2 H2 v g r
theorem Ev.nonO {j} : Ev X (.Constant .none j pos) σ G (Option.none : Option α) := fun G1 H1 Q s1 s2 k => WE.of pe_non (k G1 H1 _ (GrM.refl s2) rfl)
theorem Ev.eq {d d' : α} (h : Ev X e σ G d) (q : d = d') : Ev X e σ G d' := q ▸ h
theorem ET.eq {d d' : Bool} (h : ET X e σ G d) (q : d = d') : ET X e σ G d' := q ▸ h
/-- a module's text constant -/
theorem Ev.gstr {x : Str} {z : Str} {t : Tok} (hm : X.mg x = Option.some (.str z t)) (hg : Gl X x := by rfl) (hd : (x == ("__debug__" : Str)) = false := by decide) : Ev X (.Name x pos) σ G (z : Str) := fun G1 H1 Q s1 s2 k =>
  WE.of (pe_glob (v := .str z) hg hm ⟨t, rfl⟩ hd) (k G1 H1 _ (GrM.refl s2) rfl)

/-- two places, one place: by values -/
def R2K (r : R2) (x : α) (y : β) (z : γ) : Prop := ∀ G H u v (Q : VK), Same G H → rp G u x → rp G v y → (∀ G2 H2 w, Gr G H G2 H2 → rp G2 w z → Q w H2) → r u v H Q
theorem Ev.op {op : Operator} {r : R2} {x : α} {y : β} {z : γ} (ho : OpR X (binaryOp op) r) (hr : R2K r x y z) (ha : Ev X a σ G x) (hb : Ev X b σ G y) : Ev X (.BinOp a op b pos) σ G z := fun G1 H1 Q s1 s2 k =>
  WE.of (pe_op ho pe_we pe_we) (ha G1 H1 _ s1 s2 fun G2 H2 v g r1 => hb G2 H2 _ (s1.trans g.g) g.s fun G3 H3 u g2 r2 => hr G3 H3 v u Q g2.s (rup g2.g r1) r2 fun G4 H4 w g3 r3 => k G4 H4 w ((g.trans g2).trans g3) r3)
theorem Ev.cmp {op : CmpOp} {r : R2} {x : α} {y : β} {z : γ} (ho : OpR X (compareOp op) r) (hm : behindInMarks op b = false) (hr : R2K r x y z) (ha : Ev X a σ G x) (hb : Ev X b σ G y) : Ev X (.Compare a [op] [b] pos) σ G z := fun G1 H1 Q s1 s2 k =>
  WE.of (pe_cmpR ho pe_we pe_we hm) (ha G1 H1 _ s1 s2 fun G2 H2 v g r1 => hb G2 H2 _ (s1.trans g.g) g.s fun G3 H3 u g2 r2 => hr G3 H3 v u Q g2.s (rup g2.g r1) r2 fun G4 H4 w g3 r3 => k G4 H4 w ((g.trans g2).trans g3) r3)
theorem ET.cmp {op : CmpOp} {r : R2} {x : α} {y : β} {z : Bool} (ho : OpR X (compareOp op) r) (hm : behindInMarks op b = false) (hr : R2K r x y z) (ha : Ev X a σ G x) (hb : Ev X b σ G y) : ET X (.Compare a [op] [b] pos) σ G z := fun G1 H1 Q s1 s2 k =>
  WT.of (pt_cmpR ho pe_we pe_we hm) (ha G1 H1 _ s1 s2 fun G2 H2 v g r1 => hb G2 H2 _ (s1.trans g.g) g.s fun G3 H3 u g2 r2 => hr G3 H3 v u _ g2.s (rup g2.g r1) r2 fun G4 H4 w g3 r3 => ⟨z, r3, k G4 H4 ((g.trans g2).trans g3)⟩)
/-- a bool's expression as a test -/
theorem ET.val {z : Bool} (h : Ev X e σ G z) (he : ∀ whole, isTrue e X.env whole = (do let v ← whole; standAt e.pos; holding [v] (truthy v)) := by intro _; rfl) : ET X e σ G z := fun G1 H1 Q s1 s2 k =>
  WT.of (pt_val pe_we he) (h G1 H1 _ s1 s2 fun G2 H2 v g r => ⟨z, r, k G2 H2 g⟩)
theorem ET.not {z : Bool} (h : ET X e σ G z) : ET X (.UnaryOp .Not e pos) σ G (!z) := fun G1 H1 Q s1 s2 k =>
  WT.of (pt_not pt_wt) (h G1 H1 _ s1 s2 fun G2 H2 g => k G2 H2 g)
theorem Ev.not {z : Bool} (h : Ev X e σ G z) : Ev X (.UnaryOp .Not e pos) σ G (!z) := fun G1 H1 Q s1 s2 k =>
  WE.of (pe_not pe_we) (h G1 H1 _ s1 s2 fun G2 H2 v g r => ⟨z, r, k G2 H2 _ g rfl⟩)
variable {rest : List Expr}
theorem EW.or1 {z : Bool} (h : ET X a σ G z) : EW X (.BoolOp .Or [a] pos) σ G z := fun G1 H1 Q s1 s2 k => WW.of (pw_or1 pt_wt) (h G1 H1 _ s1 s2 k)
theorem EW.and1 {z : Bool} (h : ET X a σ G z) : EW X (.BoolOp .And [a] pos) σ G z := fun G1 H1 Q s1 s2 k => WW.of (pw_and1 pt_wt) (h G1 H1 _ s1 s2 k)
theorem EW.or {y z : Bool} (h : ET X a σ G y) (h2 : y = false → EW X (.BoolOp .Or (b :: rest) pos) σ G z) : EW X (.BoolOp .Or (a :: b :: rest) pos) σ G (y || z) := fun G1 H1 Q s1 s2 k =>
  WW.of (pw_or pt_wt pw_ww) (h G1 H1 _ s1 s2 fun G2 H2 g => by
    cases y with
    | true => exact k G2 H2 g
    | false => exact h2 rfl G2 H2 _ (s1.trans g.g) g.s fun G3 H3 g2 => k G3 H3 (g.trans g2))
theorem EW.and {y z : Bool} (h : ET X a σ G y) (h2 : y = true → EW X (.BoolOp .And (b :: rest) pos) σ G z) : EW X (.BoolOp .And (a :: b :: rest) pos) σ G (y && z) := fun G1 H1 Q s1 s2 k =>
  WW.of (pw_and pt_wt pw_ww) (h G1 H1 _ s1 s2 fun G2 H2 g => by
    cases y with
    | false => exact k G2 H2 g
    | true => exact h2 rfl G2 H2 _ (s1.trans g.g) g.s fun G3 H3 g2 => k G3 H3 (g.trans g2))
theorem Ev.one {op} {z : α} (h : Ev X a σ G z) : Ev X (.BoolOp op [a] pos) σ G z := fun G1 H1 Q s1 s2 k => WE.of (pe_one pe_we) (h G1 H1 _ s1 s2 k)
theorem Ev.and {y z : Bool} (h : Ev X a σ G y) (h2 : y = true → Ev X (.BoolOp .And (b :: rest) pos) σ G z) : Ev X (.BoolOp .And (a :: b :: rest) pos) σ G (y && z) := fun G1 H1 Q s1 s2 k =>
  WE.of (pe_and pe_we pe_we) (h G1 H1 _ s1 s2 fun G2 H2 v g r => ⟨y, r, by
    cases y with
    | false => exact k G2 H2 _ g rfl
    | true => exact h2 rfl G2 H2 _ (s1.trans g.g) g.s fun G3 H3 v g2 r2 => k G3 H3 v (g.trans g2) r2⟩)
theorem Ev.or {y z : Bool} (h : Ev X a σ G y) (h2 : y = false → Ev X (.BoolOp .Or (b :: rest) pos) σ G z) : Ev X (.BoolOp .Or (a :: b :: rest) pos) σ G (y || z) := fun G1 H1 Q s1 s2 k =>
  WE.of (pe_or pe_we pe_we) (h G1 H1 _ s1 s2 fun G2 H2 v g r => ⟨y, r, by
    cases y with
    | true => exact k G2 H2 _ g rfl
    | false => exact h2 rfl G2 H2 _ (s1.trans g.g) g.s fun G3 H3 v g2 r2 => k G3 H3 v (g.trans g2) r2⟩)
theorem Ev.ite {y : Bool} {z z' : α} (h : ET X c σ G y) (h1 : y = true → Ev X a σ G z) (h2 : y = false → Ev X b σ G z') : Ev X (.IfExp c a b pos) σ G (if y = true then z else z') := fun G1 H1 Q s1 s2 k =>
  WE.of (pe_ifExp pt_wt pe_we pe_we) (h G1 H1 _ s1 s2 fun G2 H2 g => by
    cases y with
    | true => exact h1 rfl G2 H2 _ (s1.trans g.g) g.s fun G3 H3 v g2 r => k G3 H3 v (g.trans g2) r
    | false => exact h2 rfl G2 H2 _ (s1.trans g.g) g.s fun G3 H3 v g2 r => k G3 H3 v (g.trans g2) r)
end
end D1

namespace D1
open PySem L2 Rp

/-! ### data as PyData -/
class Da (α : Type) [Rp α] where
  toD : α → PyData
  lay : α → Prop
  dep : Nat
  dp : ∀ {K : PySem.W.Frag} {H : Hp} {v : V} {a : α}, rp H v a → Dp K H v (toD a)
  can : ∀ a : α, lay a → (toD a).canLay0 = true
  dpt : ∀ a : α, (toD a).depth ≤ dep
/-- equality of the data is == -/
class De (α : Type) [Rp α] [Da α] [DecidableEq α] where
  eqv : ∀ a b : α, PyData.eqv (Da.toD a) (Da.toD b) = decide (a = b)
open Da De
instance : Da Int := ⟨.int, fun _ => True, 0, fun h => by cases h; exact .int _, fun a _ => by simp [PyData.canLay0], fun a => by simp [PyData.depth]⟩
instance : Da Bool := ⟨.bool, fun _ => True, 0, fun h => by cases h; exact .bl _, fun a _ => by simp [PyData.canLay0], fun a => by simp [PyData.depth]⟩
instance : Da Str := ⟨.str, fun x => PyData.strOk x = true, 0, fun h => by cases h; exact .str _, fun a h => by simpa [PyData.canLay0] using h, fun a => by simp [PyData.depth]⟩
theorem dpAll_of {α : Type} [Rp α] [Da α] {K : PySem.W.Frag} {H : Hp} : ∀ {xs : List V} {as : List α}, Paired (rp H) xs as → DpAll K H xs (as.map toD)
  | _, _, .nil => .nil
  | _, _, .cons r t => .cons (dp r) (dpAll_of t)
theorem canAll_of {α : Type} [Rp α] [Da α] : ∀ {as : List α}, (∀ a ∈ as, lay a) → PyData.canLayAll0 (as.map toD) = true
  | [], _ => by simp [PyData.canLayAll0]
  | a :: r, h => by
    simp only [List.map_cons, PyData.canLayAll0, Bool.and_eq_true]
    exact ⟨can a (h a (by simp)), canAll_of fun b hb => h b (by simp [hb])⟩
theorem dptAll_of {α : Type} [Rp α] [Da α] : ∀ {as : List α}, PyData.depthAll (as.map toD) ≤ dep α
  | [] => by simp [PyData.depthAll]
  | a :: r => by
    simp only [List.map_cons, PyData.depthAll]
    have h1 := dpt a
    have h2 := dptAll_of (as := r)
    omega
instance {α : Type} [Rp α] [Da α] : Da (List α) := ⟨fun as => .list (as.map toD), fun as => ∀ a ∈ as, lay a, dep α + 1,
  fun ⟨p, xs, e, h, q⟩ => by subst e; exact .lst (SqL.of h) (dpAll_of q),
  fun as h => by simp only [PyData.canLay0]; exact canAll_of h,
  fun as => by simp only [PyData.depth]; have := dptAll_of (as := as); omega⟩
instance {α β : Type} [Rp α] [Rp β] [Da α] [Da β] : Da (α × β) := ⟨fun ab => .tuple [toD ab.1, toD ab.2], fun ab => lay ab.1 ∧ lay ab.2, max (dep α) (dep β) + 1,
  fun ⟨p, x, y, e, h, q, r⟩ => by subst e; exact .tup (SqT.of h) (.cons (dp q) (.cons (dp r) .nil)),
  fun ab h => by simp only [PyData.canLay0, PyData.canLayAll0, Bool.and_eq_true]; exact ⟨can _ h.1, can _ h.2, trivial⟩,
  fun ab => by
    simp only [PyData.depth, PyData.depthAll]
    have h1 := dpt ab.1
    have h2 := dpt ab.2
    omega⟩
instance {α β γ : Type} [Rp α] [Rp β] [Rp γ] [Da α] [Da β] [Da γ] : Da (T3 α β γ) := ⟨fun t => .tuple [toD t.a, toD t.b, toD t.c], fun t => lay t.a ∧ lay t.b ∧ lay t.c, max (dep α) (max (dep β) (dep γ)) + 1,
  fun ⟨p, x, y, z, e, h, q, r, u⟩ => by subst e; exact .tup (SqT.of h) (.cons (dp q) (.cons (dp r) (.cons (dp u) .nil))),
  fun t h => by simp only [PyData.canLay0, PyData.canLayAll0, Bool.and_eq_true]; exact ⟨can _ h.1, can _ h.2.1, can _ h.2.2, trivial⟩,
  fun t => by
    simp only [PyData.depth, PyData.depthAll]
    have h1 := dpt t.a
    have h2 := dpt t.b
    have h3 := dpt t.c
    omega⟩
instance {α : Type} [Rp α] [Da α] : Da (Option α) := ⟨fun o => match o with
  | none => .none
  | some a => toD a, fun o => ∀ a, o = some a → lay a, dep α,
  fun {K H v o} h => by
    cases o with
    | none => cases (show v = .non from h); exact .non
    | some a => exact dp (show rp H v a from h),
  fun o h => by
    cases o with
    | none => simp [PyData.canLay0]
    | some a => exact can a (h a rfl),
  fun o => by
    cases o with
    | none => simp [PyData.depth]
    | some a => exact dpt a⟩
instance : De Int := ⟨fun a b => by show (a == b) = _; rw [Bool.eq_iff_iff]; simp⟩
instance : De Bool := ⟨fun a b => by show (a == b) = _; rw [Bool.eq_iff_iff]; simp⟩
instance : De Str := ⟨fun a b => by show (a == b) = _; rw [Bool.eq_iff_iff]; simp⟩
theorem eqvAll_of {α : Type} [Rp α] [Da α] [DecidableEq α] [De α] : ∀ as bs : List α, PyData.eqvAll (as.map toD) (bs.map toD) = decide (as = bs)
  | [], [] => by simp [PyData.eqvAll]
  | [], b :: bs => by simp [PyData.eqvAll]
  | a :: as, [] => by simp [PyData.eqvAll]
  | a :: as, b :: bs => by
    simp only [List.map_cons, PyData.eqvAll, eqvAll_of as bs, eqv a b, List.cons.injEq, Bool.decide_and]
instance {α : Type} [Rp α] [Da α] [DecidableEq α] [De α] : De (List α) := ⟨fun as bs => by show PyData.eqv (.list _) (.list _) = _; simp only [PyData.eqv]; exact eqvAll_of as bs⟩
instance {α β : Type} [Rp α] [Rp β] [Da α] [Da β] [DecidableEq α] [DecidableEq β] [De α] [De β] : De (α × β) := ⟨fun a b => by
  show PyData.eqv (.tuple _) (.tuple _) = _
  simp only [PyData.eqv, PyData.eqvAll, eqv, Bool.and_true, Prod.ext_iff, Bool.decide_and]⟩
instance {α β γ : Type} [Rp α] [Rp β] [Rp γ] [Da α] [Da β] [Da γ] [DecidableEq α] [DecidableEq β] [DecidableEq γ] [De α] [De β] [De γ] : De (T3 α β γ) := ⟨fun a b => by
  show PyData.eqv (.tuple _) (.tuple _) = _
  obtain ⟨a1, a2, a3⟩ := a
  obtain ⟨b1, b2, b3⟩ := b
  simp only [PyData.eqv, PyData.eqvAll, eqv, Bool.and_true, T3.mk.injEq, Bool.decide_and]⟩
/-- None is unlike the data of these -/
class Dn (α : Type) [Rp α] [Da α] where
  l : ∀ a : α, PyData.eqv .none (toD a) = false
  r : ∀ a : α, PyData.eqv (toD a) .none = false
instance : Dn Int := ⟨fun _ => rfl, fun _ => rfl⟩
instance : Dn Bool := ⟨fun _ => rfl, fun _ => rfl⟩
instance : Dn Str := ⟨fun _ => rfl, fun _ => rfl⟩
instance {α : Type} [Rp α] [Da α] : Dn (List α) := ⟨fun _ => by show PyData.eqv .none (.list _) = _; simp [PyData.eqv], fun _ => by show PyData.eqv (.list _) .none = _; simp [PyData.eqv]⟩
instance {α β : Type} [Rp α] [Rp β] [Da α] [Da β] : Dn (α × β) := ⟨fun _ => by show PyData.eqv .none (.tuple _) = _; simp [PyData.eqv], fun _ => by show PyData.eqv (.tuple _) .none = _; simp [PyData.eqv]⟩
instance {α β γ : Type} [Rp α] [Rp β] [Rp γ] [Da α] [Da β] [Da γ] : Dn (T3 α β γ) := ⟨fun _ => by show PyData.eqv .none (.tuple _) = _; simp [PyData.eqv], fun _ => by show PyData.eqv (.tuple _) .none = _; simp [PyData.eqv]⟩
instance {α : Type} [Rp α] [Da α] [DecidableEq α] [De α] [Dn α] : De (Option α) := ⟨fun a b => by
  cases a with
  | none => cases b with
    | none => show PyData.eqv .none .none = _; simp [PyData.eqv]
    | some b => show PyData.eqv .none (toD b) = _; rw [Dn.l]; simp
  | some a => cases b with
    | none => show PyData.eqv (toD a) .none = _; rw [Dn.r]; simp
    | some b => show PyData.eqv (toD a) (toD b) = _; rw [eqv]; simp⟩
theorem shaped_of {α : Type} [Rp α] [Da α] {a : α} (h : lay a) (hd : dep α ≤ 64) : SeqAt.shaped (toD a) = true := by
  unfold SeqAt.shaped
  rw [can a h]
  have := dpt a
  simp only [Bool.true_and, decide_eq_true_eq]
  omega

/-! ### the rules of operations -/
section
variable {X : Cx}
theorem r2_add {i j : Int} : R2K (rI0 fun i j => .int (i + j)) i j (i + j) := fun G H u v Q s r1 r2 k => by
  cases r1; cases r2; exact ⟨_, _, rfl, rfl, k _ _ _ (GrM.refl s) rfl⟩
theorem r2_sub {i j : Int} : R2K (rI0 fun i j => .int (i - j)) i j (i - j) := fun G H u v Q s r1 r2 k => by
  cases r1; cases r2; exact ⟨_, _, rfl, rfl, k _ _ _ (GrM.refl s) rfl⟩
theorem r2_I {C : Int → Int → Prop} {g : Int → Int → Int} {i j : Int} (c : C i j) : R2K (rI C fun i j => .int (g i j)) i j (g i j) := fun G H u v Q s r1 r2 k => by
  cases r1; cases r2; exact ⟨_, _, rfl, rfl, c, k _ _ _ (GrM.refl s) rfl⟩
theorem r2_B {g : Int → Int → Bool} {i j : Int} : R2K (rI0 fun i j => .bl (g i j)) i j (g i j) := fun G H u v Q s r1 r2 k => by
  cases r1; cases r2; exact ⟨_, _, rfl, rfl, k _ _ _ (GrM.refl s) rfl⟩
theorem r2_addS {x y : Str} (h : x.length + y.length ≤ sizeLine) : R2K (fun x y H Q => ∃ i j, x = .str i ∧ y = .str j ∧ i.length + j.length ≤ sizeLine ∧ Q (.str (i ++ j)) H) x y (x ++ y) := fun G H u v Q s r1 r2 k => by
  cases r1; cases r2; exact ⟨_, _, rfl, rfl, h, k _ _ _ (GrM.refl s) rfl⟩
theorem r2_cat {α : Type} [Rp α] {x y : List α} (h : x.length + y.length ≤ sizeLine) : R2K rCat x y (x ++ y) := fun G H u v Q s ⟨p, xs, e1, h1, q1⟩ ⟨p2, ys, e2, h2, q2⟩ k => by
  subst e1; subst e2
  refine ⟨p, p2, xs, ys, rfl, rfl, s _ _ h1, s _ _ h2, by rw [q1.length, q2.length]; exact h, fun q hq => ?_⟩
  have g := Gr.new (o := .lst (xs ++ ys)) s hq
  refine k _ _ _ g ⟨q, xs ++ ys, rfl, upd_same, ?_⟩
  exact PairedAppend (pmono q1 fun _ _ => rup g.g) (pmono q2 fun _ _ => rup g.g)
where
  PairedAppend {α β : Type} {F : α → β → Prop} : ∀ {l l' : List α} {m m' : List β}, Paired F l m → Paired F l' m' → Paired F (l ++ l') (m ++ m')
    | _, _, _, _, .nil, h => h
    | _, _, _, _, .cons r t, h => .cons r (PairedAppend t h)
theorem r2_eqD {K : PySem.W.Frag} {α : Type} [Rp α] [Da α] [DecidableEq α] [De α] {x y : α} (hx : lay x) (hy : lay y) (hd : dep α ≤ 64 := by decide) : R2K (rEqD K) x y (decide (x = y)) := fun G H u v Q s r1 r2 k =>
  ⟨toD x, toD y, dp (rup s r1), dp (rup s r2), shaped_of hx hd, shaped_of hy hd, by rw [eqv]; exact k _ _ _ (GrM.refl s) rfl⟩
theorem r2_neD {K : PySem.W.Frag} {α : Type} [Rp α] [Da α] [DecidableEq α] [De α] {x y : α} (hx : lay x) (hy : lay y) (hd : dep α ≤ 64 := by decide) : R2K (rNeD K) x y (!decide (x = y)) := fun G H u v Q s r1 r2 k =>
  ⟨toD x, toD y, dp (rup s r1), dp (rup s r2), shaped_of hx hd, shaped_of hy hd, by rw [eqv]; exact k _ _ _ (GrM.refl s) rfl⟩
theorem any_eqv {α : Type} [Rp α] [Da α] [DecidableEq α] [De α] (x : α) : ∀ ys : List α, (ys.map toD).any (fun z => PyData.eqv z (toD x)) = decide (x ∈ ys)
  | [] => by simp
  | y :: ys => by
    rw [List.map_cons, List.any_cons, any_eqv x ys, eqv, Bool.eq_iff_iff]
    simp only [Bool.or_eq_true, decide_eq_true_eq, List.mem_cons]
    exact ⟨fun h => h.imp Eq.symm id, fun h => h.imp Eq.symm id⟩
theorem r2_inD {K : PySem.W.Frag} {α : Type} [Rp α] [Da α] [DecidableEq α] [De α] {x : α} {ys : List α} (hx : lay x) (hy : lay ys) (hd : dep α ≤ 63 := by decide) : R2K (rInD K) x ys (decide (x ∈ ys)) := fun G H u v Q s r1 r2 k =>
  ⟨toD x, ys.map toD, dp (rup s r1), dp (a := ys) (rup s r2), shaped_of hx (Nat.le_succ_of_le hd), shaped_of (a := ys) hy (Nat.succ_le_succ hd), by rw [any_eqv]; exact k _ _ _ (GrM.refl s) rfl⟩
theorem r2_niD {K : PySem.W.Frag} {α : Type} [Rp α] [Da α] [DecidableEq α] [De α] {x : α} {ys : List α} (hx : lay x) (hy : lay ys) (hd : dep α ≤ 63 := by decide) : R2K (rNotInD K) x ys (!decide (x ∈ ys)) := fun G H u v Q s r1 r2 k =>
  ⟨toD x, ys.map toD, dp (rup s r1), dp (a := ys) (rup s r2), shaped_of hx (Nat.le_succ_of_le hd), shaped_of (a := ys) hy (Nat.succ_le_succ hd), by rw [any_eqv]; exact k _ _ _ (GrM.refl s) rfl⟩
/-- one sign in a text -/
theorem r2_niS {c : Nat} {z : Str} : R2K (fun x y H Q => ∃ (c : Nat) (z : Str), x = .str ⟨#[c]⟩ ∧ y = .str z ∧ Q (.bl (!decide (c ∈ z.cps.toList))) H) (⟨#[c]⟩ : Str) z (!decide (c ∈ z.cps.toList)) := fun G H u v Q s r1 r2 k => by
  cases r1; cases r2; exact ⟨_, _, rfl, rfl, k _ _ _ (GrM.refl s) rfl⟩
end

section
variable {α β γ δ : Type} [Rp α] [Rp β] [Rp γ] [Rp δ] {X : Cx} {e a b c : Expr} {σ : St} {G : Hp} {pos p : Pos}
theorem Ev.add {i j : Int} (ha : Ev X a σ G i) (hb : Ev X b σ G j) : Ev X (.BinOp a .Add b pos) σ G (i + j) := Ev.op op_add r2_add ha hb
theorem Ev.sub {i j : Int} (ha : Ev X a σ G i) (hb : Ev X b σ G j) : Ev X (.BinOp a .Sub b pos) σ G (i - j) := Ev.op op_sub r2_sub ha hb
theorem Ev.addS {i j : Str} (ha : Ev X a σ G i) (hb : Ev X b σ G j) (h : i.length + j.length ≤ sizeLine) : Ev X (.BinOp a .Add b pos) σ G (i ++ j) := Ev.op op_add_str (r2_addS h) ha hb
theorem Ev.cat {i j : List α} (ha : Ev X a σ G i) (hb : Ev X b σ G j) (h : i.length + j.length ≤ sizeLine) : Ev X (.BinOp a .Add b pos) σ G (i ++ j) := Ev.op op_cat (r2_cat h) ha hb
theorem Ev.lt {i j : Int} (ha : Ev X a σ G i) (hb : Ev X b σ G j) : Ev X (.Compare a [.Lt] [b] pos) σ G (decide (i < j)) := Ev.cmp op_lt (nomark _) r2_B ha hb
theorem ET.lt {i j : Int} (ha : Ev X a σ G i) (hb : Ev X b σ G j) : ET X (.Compare a [.Lt] [b] pos) σ G (decide (i < j)) := ET.cmp op_lt (nomark _) r2_B ha hb
theorem ET.gt {i j : Int} (ha : Ev X a σ G i) (hb : Ev X b σ G j) : ET X (.Compare a [.Gt] [b] pos) σ G (decide (j < i)) := ET.cmp op_gt (nomark _) r2_B ha hb
theorem Ev.gt {i j : Int} (ha : Ev X a σ G i) (hb : Ev X b σ G j) : Ev X (.Compare a [.Gt] [b] pos) σ G (decide (j < i)) := Ev.cmp op_gt (nomark _) r2_B ha hb
theorem Ev.eqD [Da α] [DecidableEq α] [De α] {i j : α} (hu : X.A.units + 64 < cLine) (ha : Ev X a σ G i) (hb : Ev X b σ G j) (li : lay i) (lj : lay j) (hd : dep α ≤ 64 := by decide) : Ev X (.Compare a [.Eq] [b] pos) σ G (decide (i = j)) := Ev.cmp (op_eqD hu) (nomark _) (r2_eqD li lj hd) ha hb
theorem ET.eqD [Da α] [DecidableEq α] [De α] {i j : α} (hu : X.A.units + 64 < cLine) (ha : Ev X a σ G i) (hb : Ev X b σ G j) (li : lay i) (lj : lay j) (hd : dep α ≤ 64 := by decide) : ET X (.Compare a [.Eq] [b] pos) σ G (decide (i = j)) := ET.cmp (op_eqD hu) (nomark _) (r2_eqD li lj hd) ha hb
theorem Ev.neD [Da α] [DecidableEq α] [De α] {i j : α} (hu : X.A.units + 64 < cLine) (ha : Ev X a σ G i) (hb : Ev X b σ G j) (li : lay i) (lj : lay j) (hd : dep α ≤ 64 := by decide) : Ev X (.Compare a [.NotEq] [b] pos) σ G (!decide (i = j)) := Ev.cmp (op_neD hu) (nomark _) (r2_neD li lj hd) ha hb
theorem ET.neD [Da α] [DecidableEq α] [De α] {i j : α} (hu : X.A.units + 64 < cLine) (ha : Ev X a σ G i) (hb : Ev X b σ G j) (li : lay i) (lj : lay j) (hd : dep α ≤ 64 := by decide) : ET X (.Compare a [.NotEq] [b] pos) σ G (!decide (i = j)) := ET.cmp (op_neD hu) (nomark _) (r2_neD li lj hd) ha hb
theorem Ev.inD [Da α] [DecidableEq α] [De α] {i : α} {j : List α} (hu : X.A.units + 65 < cLine) (ha : Ev X a σ G i) (hb : Ev X b σ G j) (li : lay i) (lj : lay j) (hm : behindInMarks .In b = false := by rfl) (hd : dep α ≤ 63 := by decide) : Ev X (.Compare a [.In] [b] pos) σ G (decide (i ∈ j)) := Ev.cmp (op_inD hu) hm (r2_inD li lj hd) ha hb
theorem ET.inD [Da α] [DecidableEq α] [De α] {i : α} {j : List α} (hu : X.A.units + 65 < cLine) (ha : Ev X a σ G i) (hb : Ev X b σ G j) (li : lay i) (lj : lay j) (hm : behindInMarks .In b = false := by rfl) (hd : dep α ≤ 63 := by decide) : ET X (.Compare a [.In] [b] pos) σ G (decide (i ∈ j)) := ET.cmp (op_inD hu) hm (r2_inD li lj hd) ha hb
theorem Ev.niD [Da α] [DecidableEq α] [De α] {i : α} {j : List α} (hu : X.A.units + 65 < cLine) (ha : Ev X a σ G i) (hb : Ev X b σ G j) (li : lay i) (lj : lay j) (hm : behindInMarks .NotIn b = false := by rfl) (hd : dep α ≤ 63 := by decide) : Ev X (.Compare a [.NotIn] [b] pos) σ G (!decide (i ∈ j)) := Ev.cmp (op_notInD hu) hm (r2_niD li lj hd) ha hb
theorem ET.niD [Da α] [DecidableEq α] [De α] {i : α} {j : List α} (hu : X.A.units + 65 < cLine) (ha : Ev X a σ G i) (hb : Ev X b σ G j) (li : lay i) (lj : lay j) (hm : behindInMarks .NotIn b = false := by rfl) (hd : dep α ≤ 63 := by decide) : ET X (.Compare a [.NotIn] [b] pos) σ G (!decide (i ∈ j)) := ET.cmp (op_notInD hu) hm (r2_niD li lj hd) ha hb
theorem ET.niS {i : Nat} {j : Str} (ha : Ev X a σ G (⟨#[i]⟩ : Str)) (hb : Ev X b σ G j) (hm : behindInMarks .NotIn b = false := by rfl) : ET X (.Compare a [.NotIn] [b] pos) σ G (!decide (i ∈ j.cps.toList)) := ET.cmp op_notIn_sign hm r2_niS ha hb

/-! ### displays -/
theorem small_sz {n : Nat} (h : n ≤ 1000 := by decide) : n ≤ sizeLine := Nat.le_trans h (by decide)
theorem Ev.nil : Ev X (.List [] pos) σ G ([] : List α) := fun G1 H1 Q s1 s2 k => WE.of (pe_lst pa_nil) ⟨small_sz, fun q hq =>
  k _ _ _ (Gr.new (o := .lst []) s2 hq) ⟨q, [], rfl, upd_same, .nil⟩⟩
/-- the items of a display, of one type -/
def EL (X : Cx) (es : List Expr) (σ : St) (G : Hp) (as : List α) : Prop := ∀ G1 H1 (Q : List V → Hp → Prop), Same G G1 → Same G1 H1 → (∀ G2 H2 vs, Gr G1 H1 G2 H2 → Paired (rp G2) vs as → Q vs H2) → ∀ pos pins s, Inv X pins σ H1 s → wpAny (model X.prog X.w) X.A (spliced (backTo pos (starEach es X.env))) (AP X pins σ Q) X.xe s
theorem EL.nil : EL X [] σ G ([] : List α) := fun G1 H1 Q s1 s2 k pos pins s I => pa_nil.run pos pins s σ H1 Q I (k G1 H1 [] (GrM.refl s2) .nil)
theorem EL.cons {es : List Expr} {x : α} {xs : List α} (h : Ev X e σ G x) (t : EL X es σ G xs) (hs : starEach (e :: es) X.env = (false, eval e X.env) :: starEach es X.env := by rfl) : EL X (e :: es) σ G (x :: xs) := fun G1 H1 Q s1 s2 k pos pins s I =>
  (pa_cons (te := WE X e) (t := fun σ' H' Q' => ∀ pos pins s, Inv X pins σ' H' s → wpAny (model X.prog X.w) X.A (spliced (backTo pos (starEach es X.env))) (AP X pins σ' Q') X.xe s) pe_we ⟨fun pos pins s σ H Q I h => h pos pins s I⟩ hs).run pos pins s σ H1 Q I
    (h G1 H1 _ s1 s2 fun G2 H2 v g r => t G2 H2 _ (s1.trans g.g) g.s fun G3 H3 vs g2 r2 => k G3 H3 (v :: vs) (g.trans g2) (.cons (rup g2.g r) r2))
theorem Ev.lst {es : List Expr} {xs : List α} (t : EL X es σ G xs) (hz : xs.length ≤ 1000 := by decide) : Ev X (.List es pos) σ G xs := fun G1 H1 Q s1 s2 k =>
  WE.of (pe_lst (t := fun σ' H' Q' => ∀ pos pins s, Inv X pins σ' H' s → wpAny (model X.prog X.w) X.A (spliced (backTo pos (starEach es X.env))) (AP X pins σ' Q') X.xe s) ⟨fun pos pins s σ H Q I h => h pos pins s I⟩)
    (t G1 H1 _ s1 s2 fun G2 H2 vs g r => ⟨by rw [r.length]; exact small_sz hz, fun q hq => by
      have g2 := Gr.new (o := .lst vs) g.s hq
      exact k _ _ _ (g.trans g2) ⟨q, vs, rfl, upd_same, pmono r fun _ _ => rup g2.g⟩⟩)
/-- a tuple of one type's items, held as a list's would be: for `in' alone -/
theorem Ev.tup2 {x : α} {y : β} {z} (ha : Ev X a σ G x) (hb : Ev X b σ G y) (hs : starEach [a, b] X.env = (false, eval a X.env) :: starEach [b] X.env := by rfl) (hs2 : starEach [b] X.env = (false, eval b X.env) :: starEach [] X.env := by rfl) : Ev X (.Tuple [a, b] z pos) σ G (x, y) := fun G1 H1 Q s1 s2 k =>
  WE.of (pe_tup (pa_cons pe_we (pa_cons pe_we pa_nil hs2) hs)) (ha G1 H1 _ s1 s2 fun G2 H2 v g r => hb G2 H2 _ (s1.trans g.g) g.s fun G3 H3 u g2 r2 => ⟨small_sz (n := 2), fun q hq => by
    have g3 := Gr.new (o := .tup [v, u]) g2.s hq
    exact k _ _ _ ((g.trans g2).trans g3) ⟨q, v, u, rfl, upd_same, rup (g2.trans g3).g r, rup g3.g r2⟩⟩)
theorem Ev.tup3 {x : α} {y : β} {w : γ} {z} (ha : Ev X a σ G x) (hb : Ev X b σ G y) (hc : Ev X c σ G w) (hs : starEach [a, b, c] X.env = (false, eval a X.env) :: starEach [b, c] X.env := by rfl) (hs1 : starEach [b, c] X.env = (false, eval b X.env) :: starEach [c] X.env := by rfl) (hs2 : starEach [c] X.env = (false, eval c X.env) :: starEach [] X.env := by rfl) : Ev X (.Tuple [a, b, c] z pos) σ G (T3.mk x y w) := fun G1 H1 Q s1 s2 k =>
  WE.of (pe_tup (pa_cons pe_we (pa_cons pe_we (pa_cons pe_we pa_nil hs2) hs1) hs)) (ha G1 H1 _ s1 s2 fun G2 H2 v g r => hb G2 H2 _ (s1.trans g.g) g.s fun G3 H3 u g2 r2 => hc G3 H3 _ (s1.trans (g.trans g2).g) g2.s fun G4 H4 t g3 r3 => ⟨small_sz (n := 3), fun q hq => by
    have g4 := Gr.new (o := .tup [v, u, t]) g3.s hq
    exact k _ _ _ (((g.trans g2).trans g3).trans g4) ⟨q, v, u, t, rfl, upd_same, rup ((g2.trans g3).trans g4).g r, rup (g3.trans g4).g r2, rup g4.g r3⟩⟩)
end
end D1

namespace D1
open PySem L2 Rp

/-! ### blocks -/
/-- from σ, G the block ends at its end as N says, or returns as R says -/
def Bl (X : Cx) (sts : List Stmt) (σ : St) (G : Hp) (N : St → Hp → Prop) (R : V → Hp → Prop) : Prop :=
  ∀ G1 H1 (D : Ends), Same G G1 → Same G1 H1 → (∀ G2 H2 σ', Gr G1 H1 G2 H2 → N σ' G2 → D.nx σ' H2) → (∀ G2 H2 v, Gr G1 H1 G2 H2 → R v G2 → D.rt v H2) → WS X sts D σ H1
def N0 : St → Hp → Prop := fun _ _ => False
/-- the value that is handed back -/
def RV {α : Type} [Rp α] (a : α) : V → Hp → Prop := fun v G => rp G v a

section
variable {α β γ δ : Type} [Rp α] [Rp β] [Rp γ] [Rp δ] {X : Cx} {e a b c : Expr} {σ : St} {G : Hp} {pos p : Pos} {rest th el : List Stmt} {N N1 : St → Hp → Prop} {R : V → Hp → Prop}
theorem Bl.up {sts : List Stmt} {G' : Hp} (s : Same G G') (h : Bl X sts σ G N R) : Bl X sts σ G' N R := fun G1 H1 D s1 => h G1 H1 D (s.trans s1)
theorem Bl.nil (h : ∀ G', Same G G' → N σ G') : Bl X [] σ G N R := fun G1 H1 D s1 s2 kn kr => WS.of pss_nil (kn G1 H1 σ (GrM.refl s2) (h G1 s1))
/-- one statement, then the rest; t: the statement's reading -/
theorem WS.cons {st : Stmt} {t : TS} {D : Ends} {H : Hp} (h : PS X st t) (q : t { D with nx := fun σ' H' => WS X rest D σ' H' } σ H) : WS X (st :: rest) D σ H :=
  WS.of (pss_cons h pss_ws) q
theorem Bl.ret {r : α} (h : Ev X e σ G r) (hR : ∀ G2 v, rp G2 v r → R v G2) : Bl X (.Return (some e) pos :: rest) σ G N R := fun G1 H1 D s1 s2 kn kr =>
  WS.cons (ps_ret pe_we) (h G1 H1 _ s1 s2 fun G2 H2 v g r => kr G2 H2 v g (hR G2 v r))
theorem Bl.rv {r : α} (h : Ev X e σ G r) : Bl X (.Return (some e) pos :: rest) σ G N (RV r) := Bl.ret h fun _ _ r => r
theorem Bl.asg (i : Nat) {x : Str} {d : α} {px : Pos} (h : Ev X e σ G d) (k : ∀ G' v, Same G G' → rp G' v d → Bl X rest (σ.set i (some v)) G' N R) (hN : X.N.Nodup) (hi : X.N[i]? = some x := by rfl) (hx : Loc X.env.scope x := by first | exact Or.inl rfl | exact Or.inr rfl)
    (hs : swapsWith e (some (.Name x px)) pos.line X.env = pure false := by rfl) (hf : X.fn x = true ∨ X.env.scope.names.lookup x = some .local := by first | exact .inl rfl | exact .inr rfl) : Bl X (.Assign [.Name x px] e pos :: rest) σ G N R := fun G1 H1 D s1 s2 kn kr =>
  WS.cons (ps_set hN hi hx pe_we hs hf) (h G1 H1 _ s1 s2 fun G2 H2 v g r => k G2 v (s1.trans g.g) r G2 H2 D (Same.refl _) g.s (fun G3 H3 σ' g2 => kn G3 H3 σ' (g.trans g2)) fun G3 H3 v g2 => kr G3 H3 v (g.trans g2))
theorem Bl.expr {d : α} (h : Ev X e σ G d) (k : Bl X rest σ G N R) (hs : swapsWith e none pos.line X.env = pure false := by rfl) : Bl X (.Expr e pos :: rest) σ G N R := fun G1 H1 D s1 s2 kn kr =>
  WS.cons (ps_expr pe_we hs) (h G1 H1 _ s1 s2 fun G2 H2 v g r => k G2 H2 D (s1.trans g.g) g.s (fun G3 H3 σ' g2 => kn G3 H3 σ' (g.trans g2)) fun G3 H3 v g2 => kr G3 H3 v (g.trans g2))
/-- an if whose first branch leaves -/
theorem Bl.ite {z : Bool} (hc : ET X c σ G z) (h1 : z = true → Bl X th σ G N0 R) (h2 : z = false → Bl X rest σ G N R) : Bl X (.If c th [] pos :: rest) σ G N R := fun G1 H1 D s1 s2 kn kr =>
  WS.cons (ps_if pt_wt pss_ws pss_nil) (hc G1 H1 _ s1 s2 fun G2 H2 g => by
    cases z with
    | true => exact h1 rfl G2 H2 _ (s1.trans g.g) g.s (fun _ _ _ _ z => z.elim) fun G3 H3 v g2 => kr G3 H3 v (g.trans g2)
    | false => exact h2 rfl G2 H2 D (s1.trans g.g) g.s (fun G3 H3 σ' g2 => kn G3 H3 σ' (g.trans g2)) fun G3 H3 v g2 => kr G3 H3 v (g.trans g2))
/-- an if both of whose branches leave -/
theorem Bl.iteE {z : Bool} (hc : ET X c σ G z) (h1 : z = true → Bl X th σ G N0 R) (h2 : z = false → Bl X el σ G N0 R) : Bl X (.If c th el pos :: rest) σ G N R := fun G1 H1 D s1 s2 kn kr =>
  WS.cons (ps_if pt_wt pss_ws pss_ws) (hc G1 H1 _ s1 s2 fun G2 H2 g => by
    cases z with
    | true => exact h1 rfl G2 H2 _ (s1.trans g.g) g.s (fun _ _ _ _ z => z.elim) fun G3 H3 v g2 => kr G3 H3 v (g.trans g2)
    | false => exact h2 rfl G2 H2 _ (s1.trans g.g) g.s (fun _ _ _ _ z => z.elim) fun G3 H3 v g2 => kr G3 H3 v (g.trans g2))
/-- an if that is joined -/
theorem Bl.ifJ (N1 : St → Hp → Prop) {z : Bool} (hc : ET X c σ G z) (h1 : z = true → Bl X th σ G N1 R) (h2 : z = false → Bl X el σ G N1 R) (k : ∀ σ' G', Same G G' → N1 σ' G' → Bl X rest σ' G' N R) : Bl X (.If c th el pos :: rest) σ G N R := fun G1 H1 D s1 s2 kn kr =>
  WS.cons (ps_if pt_wt pss_ws pss_ws) (hc G1 H1 _ s1 s2 fun G2 H2 g => by
    have fin : ∀ G3 H3 σ', Gr G2 H2 G3 H3 → N1 σ' G3 → WS X rest D σ' H3 := fun G3 H3 σ' g2 n => k σ' G3 (s1.trans (g.trans g2).g) n G3 H3 D (Same.refl _) g2.s (fun G4 H4 σ' g3 => kn G4 H4 σ' ((g.trans g2).trans g3)) fun G4 H4 v g3 => kr G4 H4 v ((g.trans g2).trans g3)
    cases z with
    | true => exact h1 rfl G2 H2 _ (s1.trans g.g) g.s fin fun G3 H3 v g2 => kr G3 H3 v (g.trans g2)
    | false => exact h2 rfl G2 H2 _ (s1.trans g.g) g.s fin fun G3 H3 v g2 => kr G3 H3 v (g.trans g2))
/-- a test that is not met: the branch may be anything -/
theorem Bl.ifF (hc : ET X c σ G false) (h2 : Bl X rest σ G N R) : Bl X (.If c th [] pos :: rest) σ G N R := Bl.ite hc (fun h => nomatch h) fun _ => h2
/-- x, y = e, a pair -/
theorem pg_two {i j : Nat} {x y : Str} {px py pt : Pos} {kt} (hc : X.calm = true) (hN : X.N.Nodup) (hi : X.N[i]? = some x) (hj : X.N[j]? = some y) (hx : Loc X.env.scope x) (hy : Loc X.env.scope y)
    (fx : X.fn x = true ∨ X.env.scope.names.lookup x = some .local) (fy : X.fn y = true ∨ X.env.scope.names.lookup y = some .local)
    (h1 : (assignEach [.Name x px, .Name y py] X.env).map (·.2) = assign (.Name x px) X.env :: (assignEach [.Name y py] X.env).map (·.2) := by rfl) (h2 : (assignEach [.Name y py] X.env).map (·.2) = assign (.Name y py) X.env :: (assignEach [] X.env).map (·.2) := by rfl)
    (hn : (assignEach [.Name x px, .Name y py] X.env).length = 2 := by rfl) (hst : (assignEach [.Name x px, .Name y py] X.env).findIdx? (·.1) = none := by rfl) :
    PG X (.Tuple [.Name x px, .Name y py] kt pt) (gTup X.K 2 (gCons (gName i) (gCons (gName j) gNil))) := pg_tup hc (pgs_cons (pg_name hN hi hx fx) (pgs_cons (pg_name hN hj hy fy) pgs_nil h2) h1) hn hst
theorem pg_three {i j l : Nat} {x y z : Str} {px py pz pt : Pos} {kt} (hc : X.calm = true) (hN : X.N.Nodup) (hi : X.N[i]? = some x) (hj : X.N[j]? = some y) (hl : X.N[l]? = some z) (hx : Loc X.env.scope x) (hy : Loc X.env.scope y) (hz : Loc X.env.scope z)
    (fx : X.fn x = true ∨ X.env.scope.names.lookup x = some .local) (fy : X.fn y = true ∨ X.env.scope.names.lookup y = some .local) (fz : X.fn z = true ∨ X.env.scope.names.lookup z = some .local)
    (h1 : (assignEach [.Name x px, .Name y py, .Name z pz] X.env).map (·.2) = assign (.Name x px) X.env :: (assignEach [.Name y py, .Name z pz] X.env).map (·.2) := by rfl) (h2 : (assignEach [.Name y py, .Name z pz] X.env).map (·.2) = assign (.Name y py) X.env :: (assignEach [.Name z pz] X.env).map (·.2) := by rfl)
    (h3 : (assignEach [.Name z pz] X.env).map (·.2) = assign (.Name z pz) X.env :: (assignEach [] X.env).map (·.2) := by rfl)
    (hn : (assignEach [.Name x px, .Name y py, .Name z pz] X.env).length = 3 := by rfl) (hst : (assignEach [.Name x px, .Name y py, .Name z pz] X.env).findIdx? (·.1) = none := by rfl) :
    PG X (.Tuple [.Name x px, .Name y py, .Name z pz] kt pt) (gTup X.K 3 (gCons (gName i) (gCons (gName j) (gCons (gName l) gNil)))) := pg_tup hc (pgs_cons (pg_name hN hi hx fx) (pgs_cons (pg_name hN hj hy fy) (pgs_cons (pg_name hN hl hz fz) pgs_nil h3) h2) h1) hn hst
theorem g_two {K : PySem.W.Frag} {i j : Nat} {G H : Hp} {σ : St} {v : V} {x : α} {y : β} {Q : St → Hp → Prop} (s : Same G H) (r : rp G v (x, y)) (k : ∀ u w, rp G u x → rp G w y → Q ((σ.set i (some u)).set j (some w)) H) : gTup K 2 (gCons (gName i) (gCons (gName j) gNil)) v σ H Q := by
  obtain ⟨p, u, w, rfl, h, r1, r2⟩ := r
  exact ⟨p, [u, w], rfl, SqT.of (s _ _ h), rfl, u, _, rfl, w, _, rfl, rfl, k u w r1 r2⟩
theorem g_three {K : PySem.W.Frag} {i j l : Nat} {G H : Hp} {σ : St} {v : V} {t : T3 α β γ} {Q : St → Hp → Prop} (s : Same G H) (r : rp G v t) (k : ∀ u w z, rp G u t.a → rp G w t.b → rp G z t.c → Q (((σ.set i (some u)).set j (some w)).set l (some z)) H) : gTup K 3 (gCons (gName i) (gCons (gName j) (gCons (gName l) gNil))) v σ H Q := by
  obtain ⟨p, u, w, z, rfl, h, r1, r2, r3⟩ := r
  exact ⟨p, [u, w, z], rfl, SqT.of (s _ _ h), rfl, u, _, rfl, w, _, rfl, z, _, rfl, rfl, k u w z r1 r2 r3⟩
theorem Bl.asgG {tg : Expr} {g : TG} {d : α} (h : Ev X e σ G d) (hg : PG X tg g) (k : ∀ G' H' v (Q : St → Hp → Prop), Same G G' → Same G' H' → rp G' v d → (∀ σ', Bl X rest σ' G' N R → Q σ' H') → g v σ H' Q)
    (hs : swapsWithSole [tg] e pos.line X.env = pure false := by rfl) (hw : swappedStores [tg] e X.env = pure none := by rfl) (h1 : (assignEach [tg] X.env).map (·.2) = [assign tg X.env] := by rfl) : Bl X (.Assign [tg] e pos :: rest) σ G N R := fun G1 H1 D s1 s2 kn kr =>
  WS.cons (ps_asg pe_we hg hs hw h1) (h G1 H1 _ s1 s2 fun G2 H2 v g r => k G2 H2 v _ (s1.trans g.g) g.s r fun σ' q => q G2 H2 D (Same.refl _) g.s (fun G3 H3 σ' g2 => kn G3 H3 σ' (g.trans g2)) fun G3 H3 v g2 => kr G3 H3 v (g.trans g2))
/-- the two, the three names -/
theorem Bl.asg2 (i j : Nat) {x y : Str} {px py pt : Pos} {kt} {d : α} {d2 : β} (h : Ev X e σ G (d, d2)) (k : ∀ G' u w, Same G G' → rp G' u d → rp G' w d2 → Bl X rest ((σ.set i (some u)).set j (some w)) G' N R)
    (hN : X.N.Nodup) (hc : X.calm = true := by rfl) (hi : X.N[i]? = some x := by rfl) (hj : X.N[j]? = some y := by rfl) (hx : Loc X.env.scope x := by first | exact Or.inl rfl | exact Or.inr rfl) (hy : Loc X.env.scope y := by first | exact Or.inl rfl | exact Or.inr rfl)
    (fx : X.fn x = true ∨ X.env.scope.names.lookup x = some .local := by first | exact .inl rfl | exact .inr rfl) (fy : X.fn y = true ∨ X.env.scope.names.lookup y = some .local := by first | exact .inl rfl | exact .inr rfl)
    (h1 : (assignEach [.Name x px, .Name y py] X.env).map (·.2) = assign (.Name x px) X.env :: (assignEach [.Name y py] X.env).map (·.2) := by rfl) (h2 : (assignEach [.Name y py] X.env).map (·.2) = assign (.Name y py) X.env :: (assignEach [] X.env).map (·.2) := by rfl)
    (hn : (assignEach [.Name x px, .Name y py] X.env).length = 2 := by rfl) (hst : (assignEach [.Name x px, .Name y py] X.env).findIdx? (·.1) = none := by rfl)
    (hs : swapsWithSole [.Tuple [.Name x px, .Name y py] kt pt] e pos.line X.env = pure false := by rfl) (hw : swappedStores [.Tuple [.Name x px, .Name y py] kt pt] e X.env = pure none := by rfl) (ha : (assignEach [.Tuple [.Name x px, .Name y py] kt pt] X.env).map (·.2) = [assign (.Tuple [.Name x px, .Name y py] kt pt) X.env] := by rfl) :
    Bl X (.Assign [.Tuple [.Name x px, .Name y py] kt pt] e pos :: rest) σ G N R :=
  Bl.asgG h (pg_two hc hN hi hj hx hy fx fy h1 h2 hn hst) (fun G' H' v Q s1 s2 r q => g_two s2 r fun u w r1 r2 => q _ (k G' u w s1 r1 r2)) hs hw ha
theorem Bl.asg3 (i j l : Nat) {x y z : Str} {px py pz pt : Pos} {kt} {t : T3 α β γ} (h : Ev X e σ G t) (k : ∀ G' u w z, Same G G' → rp G' u t.a → rp G' w t.b → rp G' z t.c → Bl X rest (((σ.set i (some u)).set j (some w)).set l (some z)) G' N R)
    (hN : X.N.Nodup) (hc : X.calm = true := by rfl) (hi : X.N[i]? = some x := by rfl) (hj : X.N[j]? = some y := by rfl) (hl : X.N[l]? = some z := by rfl) (hx : Loc X.env.scope x := by first | exact Or.inl rfl | exact Or.inr rfl) (hy : Loc X.env.scope y := by first | exact Or.inl rfl | exact Or.inr rfl) (hz : Loc X.env.scope z := by first | exact Or.inl rfl | exact Or.inr rfl)
    (fx : X.fn x = true ∨ X.env.scope.names.lookup x = some .local := by first | exact .inl rfl | exact .inr rfl) (fy : X.fn y = true ∨ X.env.scope.names.lookup y = some .local := by first | exact .inl rfl | exact .inr rfl) (fz : X.fn z = true ∨ X.env.scope.names.lookup z = some .local := by first | exact .inl rfl | exact .inr rfl)
    (h1 : (assignEach [.Name x px, .Name y py, .Name z pz] X.env).map (·.2) = assign (.Name x px) X.env :: (assignEach [.Name y py, .Name z pz] X.env).map (·.2) := by rfl) (h2 : (assignEach [.Name y py, .Name z pz] X.env).map (·.2) = assign (.Name y py) X.env :: (assignEach [.Name z pz] X.env).map (·.2) := by rfl)
    (h3 : (assignEach [.Name z pz] X.env).map (·.2) = assign (.Name z pz) X.env :: (assignEach [] X.env).map (·.2) := by rfl)
    (hn : (assignEach [.Name x px, .Name y py, .Name z pz] X.env).length = 3 := by rfl) (hst : (assignEach [.Name x px, .Name y py, .Name z pz] X.env).findIdx? (·.1) = none := by rfl)
    (hs : swapsWithSole [.Tuple [.Name x px, .Name y py, .Name z pz] kt pt] e pos.line X.env = pure false := by rfl) (hw : swappedStores [.Tuple [.Name x px, .Name y py, .Name z pz] kt pt] e X.env = pure none := by rfl) (ha : (assignEach [.Tuple [.Name x px, .Name y py, .Name z pz] kt pt] X.env).map (·.2) = [assign (.Tuple [.Name x px, .Name y py, .Name z pz] kt pt) X.env] := by rfl) :
    Bl X (.Assign [.Tuple [.Name x px, .Name y py, .Name z pz] kt pt] e pos :: rest) σ G N R :=
  Bl.asgG h (pg_three hc hN hi hj hl hx hy hz fx fy fz h1 h2 h3 hn hst) (fun G' H' v Q s1 s2 r q => g_three s2 r fun u w z r1 r2 r3 => q _ (k G' u w z s1 r1 r2 r3)) hs hw ha
/-- a, b = x, y stored from the right (plain local names) -/
theorem Bl.par2 (i j : Nat) {x y : Str} {px py pt pt2 : Pos} {kt k2} {d : α} {d2 : β} (ha : Ev X a σ G d) (hb : Ev X b σ G d2) (k : ∀ G' u w, Same G G' → rp G' u d → rp G' w d2 → Bl X rest ((σ.set i (some u)).set j (some w)) G' N R)
    (hN : X.N.Nodup) (hw : swappedStores [.Tuple [.Name x px, .Name y py] kt pt] (.Tuple [a, b] k2 pt2) X.env = pure (some [x, y]) := by rfl) (hc : X.calm = true := by rfl) (hi : X.N[i]? = some x := by rfl) (hj : X.N[j]? = some y := by rfl) (hij : i ≠ j := by decide) (hx : X.env.scope.names.lookup x = some .local := by rfl) (hy : X.env.scope.names.lookup y = some .local := by rfl)
    (h1 : starEach [a, b] X.env = (false, eval a X.env) :: starEach [b] X.env := by rfl) (h2 : starEach [b] X.env = (false, eval b X.env) :: starEach [] X.env := by rfl)
    (hs : swapsWithSole [.Tuple [.Name x px, .Name y py] kt pt] (.Tuple [a, b] k2 pt2) pos.line X.env = pure false := by rfl) : Bl X (.Assign [.Tuple [.Name x px, .Name y py] kt pt] (.Tuple [a, b] k2 pt2) pos :: rest) σ G N R := fun G1 H1 D s1 s2 kn kr =>
  WS.cons (ps_par hc hN hi hj hij hx hy (pa_cons pe_we (pa_cons pe_we pa_nil h2) h1) hw hs) (ha G1 H1 _ s1 s2 fun G2 H2 v g r => hb G2 H2 _ (s1.trans g.g) g.s fun G3 H3 u g2 r2 => ⟨v, u, rfl, k G3 v u (s1.trans (g.trans g2).g) (rup g2.g r) r2 G3 H3 D (Same.refl _) g2.s (fun G4 H4 σ' g3 => kn G4 H4 σ' ((g.trans g2).trans g3)) fun G4 H4 v g3 => kr G4 H4 v ((g.trans g2).trans g3)⟩)
end

/-! ### calls -/
/-- one argument: f, where pre holds -/
def P1 {α β : Type} [Rp α] [Rp β] (pre : α → Prop) (f : α → β) : Sp := fun vs H Q _ => ∃ G v a, vs = [v] ∧ Same G H ∧ rp G v a ∧ pre a ∧ ∀ G' H' w, Gr G H G' H' → rp G' w (f a) → Q w H'
def P2 {α β γ : Type} [Rp α] [Rp β] [Rp γ] (pre : α → β → Prop) (f : α → β → γ) : Sp := fun vs H Q _ => ∃ G u v a b, vs = [u, v] ∧ Same G H ∧ rp G u a ∧ rp G v b ∧ pre a b ∧ ∀ G' H' w, Gr G H G' H' → rp G' w (f a b) → Q w H'
def P3 {α β γ δ : Type} [Rp α] [Rp β] [Rp γ] [Rp δ] (pre : α → β → γ → Prop) (f : α → β → γ → δ) : Sp := fun vs H Q _ => ∃ G u v w a b c, vs = [u, v, w] ∧ Same G H ∧ rp G u a ∧ rp G v b ∧ rp G w c ∧ pre a b c ∧ ∀ G' H' w, Gr G H G' H' → rp G' w (f a b c) → Q w H'
section
variable {α β γ δ : Type} [Rp α] [Rp β] [Rp γ] [Rp δ] {X : Cx} {e e1 e2 e3 : Expr} {σ : St} {G : Hp} {pos p : Pos} {x : Str} {k j : Nat}
theorem Ev.call1 {pre : α → Prop} {f : α → β} {a : α} (c : C8.Cal X.prog X.w X.K X.mg X.base k x (P1 pre f) []) (hr : Room j X.A) (ha : Ev X e σ G a) (hp : pre a) (hk : k ≤ j := by decide) (hg : Gl X x := by rfl)
    (hdb : (x == ("__debug__" : Str)) = false := by decide) (hs : starEach [e] X.env = (false, eval e X.env) :: starEach [] X.env := by rfl) (hpl : (backTo pos (starEach [] X.env)).any (·.1) = false := by rfl) : Ev X (.Call (.Name x p) [e] [] pos) σ G (f a) := fun G1 H1 Q s1 s2 kk =>
  WE.of (C8.pe_c c hr hk hg (pa_cons pe_we pa_nil hs) hdb hs hpl) (ha G1 H1 _ s1 s2 fun G2 H2 v g r => ⟨G2, v, a, rfl, g.s, r, hp, fun G3 H3 w g2 r2 => kk G3 H3 w (g.trans g2) r2⟩)
theorem Ev.call2 {pre : α → β → Prop} {f : α → β → γ} {a : α} {b : β} (c : C8.Cal X.prog X.w X.K X.mg X.base k x (P2 pre f) []) (hr : Room j X.A) (ha : Ev X e1 σ G a) (hb : Ev X e2 σ G b) (hp : pre a b) (hk : k ≤ j := by decide) (hg : Gl X x := by rfl)
    (hdb : (x == ("__debug__" : Str)) = false := by decide) (hs : starEach [e1, e2] X.env = (false, eval e1 X.env) :: starEach [e2] X.env := by rfl) (hs2 : starEach [e2] X.env = (false, eval e2 X.env) :: starEach [] X.env := by rfl) (hpl : (backTo pos (starEach [e2] X.env)).any (·.1) = false := by rfl) : Ev X (.Call (.Name x p) [e1, e2] [] pos) σ G (f a b) := fun G1 H1 Q s1 s2 kk =>
  WE.of (C8.pe_c c hr hk hg (pa_cons pe_we (pa_cons pe_we pa_nil hs2) hs) hdb hs hpl) (ha G1 H1 _ s1 s2 fun G2 H2 v g r => hb G2 H2 _ (s1.trans g.g) g.s fun G3 H3 u g2 r2 => ⟨G3, v, u, a, b, rfl, g2.s, rup g2.g r, r2, hp, fun G4 H4 w g3 r3 => kk G4 H4 w ((g.trans g2).trans g3) r3⟩)
theorem Ev.call3 {pre : α → β → γ → Prop} {f : α → β → γ → δ} {a : α} {b : β} {d : γ} (c : C8.Cal X.prog X.w X.K X.mg X.base k x (P3 pre f) []) (hr : Room j X.A) (ha : Ev X e1 σ G a) (hb : Ev X e2 σ G b) (hd : Ev X e3 σ G d) (hp : pre a b d) (hk : k ≤ j := by decide) (hg : Gl X x := by rfl)
    (hdb : (x == ("__debug__" : Str)) = false := by decide) (hs : starEach [e1, e2, e3] X.env = (false, eval e1 X.env) :: starEach [e2, e3] X.env := by rfl) (hs2 : starEach [e2, e3] X.env = (false, eval e2 X.env) :: starEach [e3] X.env := by rfl) (hs3 : starEach [e3] X.env = (false, eval e3 X.env) :: starEach [] X.env := by rfl)
    (hpl : (backTo pos (starEach [e2, e3] X.env)).any (·.1) = false := by rfl) : Ev X (.Call (.Name x p) [e1, e2, e3] [] pos) σ G (f a b d) := fun G1 H1 Q s1 s2 kk =>
  WE.of (C8.pe_c c hr hk hg (pa_cons pe_we (pa_cons pe_we (pa_cons pe_we pa_nil hs3) hs2) hs) hdb hs hpl) (ha G1 H1 _ s1 s2 fun G2 H2 v g r => hb G2 H2 _ (s1.trans g.g) g.s fun G3 H3 u g2 r2 => hd G3 H3 _ (s1.trans (g.trans g2).g) g2.s fun G4 H4 t g3 r3 =>
    ⟨G4, v, u, t, a, b, d, rfl, g3.s, rup (g2.trans g3).g r, rup g3.g r2, r3, hp, fun G5 H5 w g4 r4 => kk G5 H5 w (((g.trans g2).trans g3).trans g4) r4⟩)
end
/-- the context of a def's body -/
abbrev BX (P : Program) (w : World) (K : PySem.W.Frag) (mg : Str → Option Value) (base : Heap) (N : List Str) (x : Str) (st : Stmt) (f : Addr) (cdv : Value) (A : Around) (outer : List Env) (s : Shared) (H : Hp) (E : XK) : Cx :=
  (cxOf C8.CX0 P w K mg base N x (C8.fnScope st) f cdv A outer s H E).nox
section
variable {α β γ δ : Type} [Rp α] [Rp β] [Rp γ] [Rp δ] {P : Program} {w : World} {K : PySem.W.Frag} {mg : Str → Option Value} {base : Heap} {x : Str} {st : Stmt} {f : Addr} {fd : FuncData} {N ps : List Str} {k : Nat}
/-- what a body is to show: its value -/
theorem fn1 {pre : α → Prop} {g : α → β} (F : C8.Def K mg x st f fd) (b : Binds K fd ps []) (S : FnScope N ps (C8.fnScope st)) (hl : ps.length = 1)
    (body : ∀ (cdv : Value) (A : Around) (outer : List Env) (s : Shared) (H : Hp) (E : XK) (G : Hp) (v : V) (a : α), Room k (BX P w K mg base N x st f cdv A outer s H E).A → rp G v a → pre a →
      Bl (BX P w K mg base N x st f cdv A outer s H E) (C8.fnBody st) (start N [v]) G (fun _ G => rp G .non (g a)) (RV (g a))) : C8.Cal P w K mg base (k + 1) x (P1 pre g) [] := by
  refine C8.cal0 F b .nil S (fun vs H Q E h => ?_) fun cdv A outer s H vs Q E hr h => ?_
  · obtain ⟨G, v, a, rfl, _⟩ := h
    exact hl.symm
  · obtain ⟨G, v, a, rfl, s1, r, p, kk⟩ := h
    exact ⟨_, pss_ws, body cdv A outer s H E G v a hr r p G H _ (Same.refl G) s1 (fun G2 H2 _ g n => kk G2 H2 _ g n) fun G2 H2 v g r => kk G2 H2 v g r⟩
theorem fn2 {pre : α → β → Prop} {g : α → β → γ} (F : C8.Def K mg x st f fd) (b : Binds K fd ps []) (S : FnScope N ps (C8.fnScope st)) (hl : ps.length = 2)
    (body : ∀ (cdv : Value) (A : Around) (outer : List Env) (s : Shared) (H : Hp) (E : XK) (G : Hp) (u v : V) (a : α) (b : β), Room k (BX P w K mg base N x st f cdv A outer s H E).A → rp G u a → rp G v b → pre a b →
      Bl (BX P w K mg base N x st f cdv A outer s H E) (C8.fnBody st) (start N [u, v]) G (fun _ G => rp G .non (g a b)) (RV (g a b))) : C8.Cal P w K mg base (k + 1) x (P2 pre g) [] := by
  refine C8.cal0 F b .nil S (fun vs H Q E h => ?_) fun cdv A outer s H vs Q E hr h => ?_
  · obtain ⟨G, u, v, a, b, rfl, _⟩ := h
    exact hl.symm
  · obtain ⟨G, u, v, a, b, rfl, s1, r1, r2, p, kk⟩ := h
    exact ⟨_, pss_ws, body cdv A outer s H E G u v a b hr r1 r2 p G H _ (Same.refl G) s1 (fun G2 H2 _ g n => kk G2 H2 _ g n) fun G2 H2 v g r => kk G2 H2 v g r⟩
theorem fn3 {pre : α → β → γ → Prop} {g : α → β → γ → δ} (F : C8.Def K mg x st f fd) (b : Binds K fd ps []) (S : FnScope N ps (C8.fnScope st)) (hl : ps.length = 3)
    (body : ∀ (cdv : Value) (A : Around) (outer : List Env) (s : Shared) (H : Hp) (E : XK) (G : Hp) (u v w' : V) (a : α) (b : β) (c : γ), Room k (BX P w K mg base N x st f cdv A outer s H E).A → rp G u a → rp G v b → rp G w' c → pre a b c →
      Bl (BX P w K mg base N x st f cdv A outer s H E) (C8.fnBody st) (start N [u, v, w']) G (fun _ G => rp G .non (g a b c)) (RV (g a b c))) : C8.Cal P w K mg base (k + 1) x (P3 pre g) [] := by
  refine C8.cal0 F b .nil S (fun vs H Q E h => ?_) fun cdv A outer s H vs Q E hr h => ?_
  · obtain ⟨G, u, v, w', a, b, c, rfl, _⟩ := h
    exact hl.symm
  · obtain ⟨G, u, v, w', a, b, c, rfl, s1, r1, r2, r3, p, kk⟩ := h
    exact ⟨_, pss_ws, body cdv A outer s H E G u v w' a b c hr r1 r2 r3 p G H _ (Same.refl G) s1 (fun G2 H2 _ g n => kk G2 H2 _ g n) fun G2 H2 v g r => kk G2 H2 v g r⟩
end
end D1

namespace D1
open PySem L2 Rp

/-! ### what is walked -/
def WI (X : Cx) (tg iter : Expr) : TI := fun σ H R => ∀ pins s, Inv X pins σ H s → wpAny (model X.prog X.w) X.A (eval iter X.env) (fun v s1 => wpAny (model X.prog X.w) X.A (pyIter v) (PIE X pins σ tg R) X.xe s1) X.xe s
theorem pi_wi {X : Cx} {tg iter : Expr} : PI X tg iter (WI X tg iter) := ⟨fun pins s _ _ _ I h => h pins s I⟩
theorem WI.of {X : Cx} {tg iter : Expr} {wi : TI} (h : PI X tg iter wi) {σ : St} {H : Hp} {R : It → Hp → Prop} (q : wi σ H R) : WI X tg iter σ H R := fun pins s I => h.run pins s σ H R I q
/-- the items of the walk -/
def EI {γ : Type} [Rp γ] (X : Cx) (tg iter : Expr) (σ : St) (G : Hp) (l : List γ) : Prop := ∀ G1 H1 (R : It → Hp → Prop), Same G G1 → Same G1 H1 →
  (∀ J S Y G2 H2, Gr G1 H1 G2 H2 → Walk J l.length S Y → (∀ H', Same G2 H' → S H') → (∀ i H x H', i < l.length → Y i H x H' → ∀ G', Same G2 G' → Same G' H → ∃ c G'', l[i]? = some c ∧ Gr G' H G'' H' ∧ rp G'' x c) → R J H2) → WI X tg iter σ H1 R
theorem paired_at {α β : Type} {F : α → β → Prop} : ∀ {l : List α} {m : List β} {i : Nat} {x : α}, Paired F l m → l[i]? = some x → ∃ y, m[i]? = some y ∧ F x y
  | _, _, _, _, .nil, h => by simp at h
  | _, _, 0, _, .cons r _, h => by simp at h; subst h; exact ⟨_, rfl, r⟩
  | _, _, i + 1, x, .cons _ t, h => by
    obtain ⟨y, h1, h2⟩ := paired_at (i := i) (x := x) t (by simpa using h)
    exact ⟨y, by simpa using h1, h2⟩
section
variable {α β γ δ : Type} [Rp α] [Rp β] [Rp γ] [Rp δ] {X : Cx} {e a b c tg : Expr} {σ : St} {G : Hp} {pos p : Pos} {rest : List Stmt} {N : St → Hp → Prop} {R : V → Hp → Prop}
theorem EI.list {l : List α} (h : Ev X e σ G l) : EI X tg e σ G l := fun G1 H1 R s1 s2 k =>
  WI.of (pi_list pe_we) (h G1 H1 _ s1 s2 fun G2 H2 v g r => by
    obtain ⟨q, xs, rfl, h1, pr⟩ := r
    have hl := pr.length
    refine ⟨q, rfl, ⟨xs, SqL.of (g.s _ _ h1)⟩, k _ (fun H => SqL X.K H q xs) (YAt xs) G2 H2 g (by rw [← hl]; exact walk_list) (fun H' s => SqL.of (s _ _ h1)) fun i H x H' hi y G' s3 s4 => ?_⟩
    obtain ⟨rfl, y⟩ := y
    obtain ⟨d, e1, e2⟩ := paired_at pr y
    exact ⟨d, G', e1, GrM.refl s4, rup s3 e2⟩)
/-- the signs of a text -/
def signs (z : Str) : List Str := z.cps.toList.map fun c => ⟨#[c]⟩
theorem EI.str {z : Str} (h : Ev X e σ G z) : EI X tg e σ G (signs z) := fun G1 H1 R s1 s2 k =>
  WI.of (pi_str pe_we) (h G1 H1 _ s1 s2 fun G2 H2 v g r => by
    cases r
    refine ⟨z, rfl, k _ (fun _ => True) _ G2 H2 g (by have e : (signs z).length = z.cps.size := by simp [signs]
                                                      rw [e]; exact walk_str) (fun _ _ => trivial) fun i H x H' hi y G' s3 s4 => ?_⟩
    obtain ⟨rfl, d, e1, rfl⟩ := y
    exact ⟨⟨#[d]⟩, G', by simp [signs, e1], GrM.refl s4, rfl⟩)
/-- 0, 1, .. below n -/
def upto (n : Nat) : List Int := (List.range n).map fun (i : Nat) => (i : Int)
theorem EI.range1 {n : Int} (hm : X.mg "range" = none) (h : Ev X e σ G n) (hn : -(2 ^ 62) ≤ n ∧ n < 2 ^ 62) (hg : Gl X "range" := by rfl) (hs : starEach [e] X.env = [(false, eval e X.env)] := by rfl) : EI X tg (.Call (.Name "range" p) [e] [] pos) σ G (upto n.toNat) := fun G1 H1 R s1 s2 k =>
  WI.of (pi_range1 hg hm (pa_cons pe_we pa_nil hs) hs) (h G1 H1 _ s1 s2 fun G2 H2 v g r => by
    cases r
    refine ⟨n, rfl, hn.1, hn.2, k _ (fun _ => True) _ G2 H2 g (by have e : (upto n.toNat).length = n.toNat := by simp [upto]
                                                                  rw [e]; exact walk_range) (fun _ _ => trivial) fun i H x H' hi y G' s3 s4 => ?_⟩
    obtain ⟨rfl, rfl⟩ := y
    have hi' : i < n.toNat := by simpa [upto] using hi
    exact ⟨(i : Int), G', by simp [upto, hi'], GrM.refl s4, by show V.int (0 + (i : Int)) = V.int i; rw [Int.zero_add]⟩)
/-- (i, x) -/
def enumd {α : Type} (l : List α) : List (Int × α) := (List.range l.length).zipWith (fun (i : Nat) x => ((i : Int), x)) l
theorem enumd_len {α : Type} (l : List α) : (enumd l).length = l.length := by simp [enumd]
theorem enumd_at {α : Type} {l : List α} {i : Nat} {x : α} (h : l[i]? = some x) : (enumd l)[i]? = some ((i : Int), x) := by
  have hi : i < l.length := (List.getElem?_eq_some_iff.mp h).1
  have e : l[i] = x := (List.getElem?_eq_some_iff.mp h).2
  simp [enumd, List.getElem?_zipWith, hi, e]
theorem EI.enum {l : List α} {elts : List Expr} {kk : Nat} {tpos : Pos} (hm : X.mg "enumerate" = none) (h : Ev X e σ G l) (hg : Gl X "enumerate" := by rfl) (hs : starEach [e] X.env = [(false, eval e X.env)] := by rfl) : EI X (.Tuple elts kk tpos) (.Call (.Name "enumerate" p) [e] [] pos) σ G (enumd l) := fun G1 H1 R s1 s2 k =>
  WI.of (pi_enum hg hm (pa_cons pe_we pa_nil hs) hs) (h G1 H1 _ s1 s2 fun G2 H2 v g r => by
    obtain ⟨q, xs, rfl, h1, pr⟩ := r
    have hl := pr.length
    refine ⟨q, xs, rfl, SqL.of (g.s _ _ h1), k _ (fun H => SqL X.K H q xs) _ G2 H2 g (by rw [enumd_len, ← hl]; exact walk_enum) (fun H' s => SqL.of (s _ _ h1)) fun i H x H' hi y G' s3 s4 => ?_⟩
    obtain ⟨T, u, w, rfl, hT, rfl, e1, e2⟩ := y
    cases e1
    obtain ⟨d, e3, e4⟩ := paired_at pr e2
    have g3 := Gr.new (o := .tup [.int (i : Nat), w]) s4 hT
    exact ⟨((i : Int), d), _, enumd_at e3, g3, T, _, _, rfl, upd_same, rfl, rup (s3.trans g3.g) e4⟩)
theorem EI.zip {l : List α} {m : List β} {elts : List Expr} {kk : Nat} {tpos : Pos} (hm : X.mg "zip" = none) (h : Ev X a σ G l) (h2 : Ev X b σ G m) (hg : Gl X "zip" := by rfl) (hs2 : starEach [b] X.env = (false, eval b X.env) :: starEach [] X.env := by rfl) (hs1 : starEach [a, b] X.env = (false, eval a X.env) :: starEach [b] X.env := by rfl) (hpl : (backTo pos (starEach [b] X.env)).any (·.1) = false := by rfl) : EI X (.Tuple elts kk tpos) (.Call (.Name "zip" p) [a, b] [] pos) σ G (l.zip m) := fun G1 H1 R s1 s2 k =>
  WI.of (pi_zip hg hm (pa_cons pe_we (pa_cons pe_we pa_nil hs2) hs1) hs1 hpl) (h G1 H1 _ s1 s2 fun G2 H2 v g r => h2 G2 H2 _ (s1.trans g.g) g.s fun G3 H3 v2 g2 r2 => by
    obtain ⟨q, xs, rfl, h1, pr⟩ := rup g2.g r
    obtain ⟨q2, ys, rfl, h3, pr2⟩ := r2
    have hl := pr.length
    have hl2 := pr2.length
    refine ⟨q, q2, xs, ys, rfl, SqL.of (g2.s _ _ h1), SqL.of (g2.s _ _ h3), k _ (fun H => SqL X.K H q xs ∧ SqL X.K H q2 ys) _ G3 H3 (g.trans g2) (walk_zip (by rw [List.length_zip, hl, hl2])) (fun H' s => ⟨SqL.of (s _ _ h1), SqL.of (s _ _ h3)⟩) fun i H x H' hi y G' s3 s4 => ?_⟩
    obtain ⟨T, u, w, rfl, hT, rfl, e1, e2⟩ := y
    obtain ⟨d, e3, e4⟩ := paired_at pr e1
    obtain ⟨d2, e5, e6⟩ := paired_at pr2 e2
    have g3 := Gr.new (o := .tup [u, w]) s4 hT
    exact ⟨(d, d2), _, by rw [List.getElem?_zip_eq_some]; exact ⟨e3, e5⟩, g3, T, _, _, rfl, upd_same, rup (s3.trans g3.g) e4, rup (s3.trans g3.g) e6⟩)

/-! ### targets -/
/-- what a target's store leaves: B item G σ σ' -/
def TgB (g : TG) (B : γ → Hp → St → St → Prop) : Prop := ∀ c G H v σ (Q : St → Hp → Prop), Same G H → rp G v c → (∀ σ', B c G σ σ' → Q σ' H) → g v σ H Q
def B1 (i : Nat) (c : γ) (G : Hp) (σ σ' : St) : Prop := ∃ v, rp G v c ∧ σ' = σ.set i (some v)
def B2 (i j : Nat) (c : α × β) (G : Hp) (σ σ' : St) : Prop := ∃ u w, rp G u c.1 ∧ rp G w c.2 ∧ σ' = (σ.set i (some u)).set j (some w)
def B3 (i j l : Nat) (c : T3 α β γ) (G : Hp) (σ σ' : St) : Prop := ∃ u w z, rp G u c.a ∧ rp G w c.b ∧ rp G z c.c ∧ σ' = ((σ.set i (some u)).set j (some w)).set l (some z)
theorem tgB1 {i : Nat} : TgB (γ := γ) (gName i) (B1 i) := fun c G H v σ Q s r k => k _ ⟨v, r, rfl⟩
theorem tgB2 {K : PySem.W.Frag} {i j : Nat} : TgB (γ := α × β) (gTup K 2 (gCons (gName i) (gCons (gName j) gNil))) (B2 i j) := fun c G H v σ Q s r k => g_two s r fun u w r1 r2 => k _ ⟨u, w, r1, r2, rfl⟩
theorem tgB3 {K : PySem.W.Frag} {i j l : Nat} : TgB (γ := T3 α β γ) (gTup K 3 (gCons (gName i) (gCons (gName j) (gCons (gName l) gNil)))) (B3 i j l) := fun c G H v σ Q s r k => g_three s r fun u w z r1 r2 r3 => k _ ⟨u, w, z, r1, r2, r3, rfl⟩

/-! ### comprehensions -/
def ETs (X : Cx) (ifs : List Expr) (σ : St) (G : Hp) (b : Bool) : Prop := ∀ G1 H1 (Q : Bool → Hp → Prop), Same G G1 → Same G1 H1 → (∀ G2 H2, Gr G1 H1 G2 H2 → Q b H2) → ∀ pins s, Inv X pins σ H1 s →
    wpAny (model X.prog X.w) X.A (forIn ifs true fun c r => if r = true then do let ok ← isTrue c X.env (eval c X.env); pure (ForInStep.yield ok) else pure (ForInStep.yield r)) (TP X pins σ Q) X.xe s
theorem ETs.nil : ETs X [] σ G true := fun G1 H1 Q s1 s2 k pins s I => pts_nil.run pins s σ H1 Q I (k G1 H1 (GrM.refl s2))
theorem ETs.one {c : Expr} {z : Bool} (h : ET X c σ G z) : ETs X [c] σ G z := fun G1 H1 Q s1 s2 k pins s I => (pts_one (t := WT X c) pt_wt).run pins s σ H1 Q I (h G1 H1 Q s1 s2 k)
/-- a block's context -/
abbrev BK (X : Cx) (s : Shared) (H : Hp) (scope : Scope) (C : Addr) (cl : List (Str × Addr)) (fp : List Addr) : Cx := X.blk s H scope (compEnvC scope cl C X.env) fp
/-- over all block contexts -/
def AE (X : Cx) (scope : Scope) (e : Expr) : TE := fun σ H Q => ∀ s H0 C cl fp, WE (BK X s H0 scope C cl fp) e σ H Q
def ATs (X : Cx) (scope : Scope) (ifs : List Expr) : TT := fun σ H Q => ∀ s H0 C cl fp pins s1, Inv (BK X s H0 scope C cl fp) pins σ H s1 →
    wpAny (model X.prog X.w) X.A (forIn ifs true fun c r => if r = true then do let ok ← isTrue c (compEnvC scope cl C X.env) (eval c (compEnvC scope cl C X.env)); pure (ForInStep.yield ok) else pure (ForInStep.yield r)) (TP (BK X s H0 scope C cl fp) pins σ Q) (fun _ _ => False) s1
theorem lc_data {l : List γ} {f : γ → δ} {t : γ → Bool} {J : It} {S : Hp → Prop} {Y : Nat → Hp → V → Hp → Prop} {g : TG} {B : γ → Hp → St → St → Prop} {tt : TT} {te : TE} {vs : List Nat} {G2 H2 : Hp} {Qd : V → Hp → Prop} {D : Addr}
    (w : Walk J l.length S Y) (hS : ∀ H', Same G2 H' → S H') (hY : ∀ i H x H', i < l.length → Y i H x H' → ∀ G', Same G2 G' → Same G' H → ∃ c G'', l[i]? = some c ∧ Gr G' H G'' H' ∧ rp G'' x c)
    (hB : TgB g B) (hw : ∀ c G' σ', B c G' (wipe σ vs) σ' → wipe σ' vs = wipe σ vs)
    (ht : ∀ c ∈ l, ∀ G' σ', Same G2 G' → B c G' (wipe σ vs) σ' → ∀ H' (Q : Bool → Hp → Prop), Same G' H' → (∀ G3 H3, Gr G' H' G3 H3 → Q (t c) H3) → tt σ' H' Q)
    (he : ∀ c ∈ l, t c = true → ∀ G' σ', Same G2 G' → B c G' (wipe σ vs) σ' → ∀ G1 H' (Q : VK), Same G' G1 → Same G1 H' → (∀ G3 H3 v, Gr G1 H' G3 H3 → rp G3 v (f c) → Q v H3) → te σ' H' Q)
    (hz : l.length < sizeLine) (s2 : Same G2 H2) (hD : H2 D = none) (k : ∀ G3 H3 v, Gr G2 H2 G3 H3 → rp G3 v ((l.filter t).map f) → Qd v H3) :
    ∃ W : Nat → Nat → Hp → Prop, (∃ m, W 0 m (upd H2 D (.lst []))) ∧ ∀ i m H, W i m H →
      (J.stop i H ∧ Qd (.ref D) H) ∨ (J.go i H ∧ ∃ Nx : Hp → Prop, (∀ H', Nx H' → ∃ m', m' < m ∧ W (i + 1) m' H') ∧ ∀ x H', J.yld i H x H' → g x (wipe σ vs) H' fun σ2 H2 => wipe σ2 vs = wipe σ vs ∧ tt σ2 H2 fun b H3 =>
        if b = true then te σ2 H3 fun y H4 => ∃ acc, H4 D = some (.lst acc) ∧ acc.length < sizeLine ∧ Nx (upd H4 D (.lst (acc ++ [y]))) else Nx H3) := by
  have gD : G2 D = none := s2.free hD
  refine lc_it (Qd := fun H => Qd (.ref D) H) w (fun i H => ∃ G3 acc, Gr G2 H2 G3 H ∧ G3 D = none ∧ H D = some (.lst acc) ∧ Paired (rp G3) acc (((l.take i).filter t).map f)) ?_ ?_ ?_ ?_
  · exact ⟨G2, [], Gr.newM s2 hD, gD, upd_same, .nil⟩
  · rintro i H _ ⟨G3, acc, g3, _⟩
    exact hS H (g3.g.trans g3.s)
  · rintro i x H H' hi ⟨G3, acc, g3, nD, hacc, pr⟩ y
    obtain ⟨c, G4, hc, g4, r⟩ := hY i H x H' hi y G3 g3.g g3.s
    have hcl : c ∈ l := List.mem_of_getElem? hc
    have nD4 : G4 D = none := g4.f D nD (by rw [hacc]; exact fun z => nomatch z)
    have hacc4 : H' D = some (.lst acc) := g4.hh _ _ hacc
    have htk : l.take (i + 1) = l.take i ++ [c] := by rw [List.take_succ, hc]; rfl
    refine hB c G4 H' x _ _ g4.s r fun σ' b => ⟨hw c G4 σ' b, ?_⟩
    refine ht c hcl G4 σ' (g3.g.trans g4.g) b H' _ g4.s fun G5 H5 g5 => ?_
    have nD5 : G5 D = none := g5.f D nD4 (by rw [hacc4]; exact fun z => nomatch z)
    have hacc5 : H5 D = some (.lst acc) := g5.hh _ _ hacc4
    have g05 : Gr G2 H2 G5 H5 := (g3.trans g4).trans g5
    by_cases hb : t c = true
    · rw [if_pos hb]
      refine he c hcl hb G4 σ' (g3.g.trans g4.g) b G5 H5 _ g5.g g5.s fun G6 H6 v g6 r6 => ?_
      have nD6 : G6 D = none := g6.f D nD5 (by rw [hacc5]; exact fun z => nomatch z)
      refine ⟨acc, g6.hh _ _ hacc5, ?_, G6, acc ++ [v], ?_, nD6, upd_same, ?_⟩
      · have e1 := pr.length
        rw [List.length_map] at e1
        have e2 := List.length_filter_le t (l.take i)
        rw [List.length_take] at e2
        omega
      · have g06 := g05.trans g6
        refine ⟨g06.g, fun b' o nb e => ?_, fun b' o e => ?_, g06.f, fun b' n => upd_some (g06.d b' n)⟩
        · rw [upd_ne (ne_of_none e hD)]; exact g06.h b' o nb e
        · rw [upd_ne (ne_of_none e nD6)]; exact g06.s b' o e
      · rw [htk, List.filter_append, List.map_append]
        have e1 : ([c].filter t).map f = [f c] := by simp [List.filter, hb]
        rw [e1]
        exact r2_cat.PairedAppend (pmono pr fun _ _ => rup ((g4.trans g5).trans g6).g) (.cons r6 .nil)
    · rw [if_neg hb]
      refine ⟨G5, acc, g05, nD5, hacc5, ?_⟩
      rw [htk, List.filter_append, List.map_append]
      have e1 : ([c].filter t).map f = [] := by simp [List.filter, hb]
      rw [e1, List.append_nil]
      exact pmono pr fun _ _ => rup (g4.trans g5).g
  · rintro H ⟨G3, acc, g3, nD, hacc, pr⟩
    rw [List.take_length] at pr
    refine k (upd G3 D (.lst acc)) H (.ref D) ⟨g3.g.trans (same_new nD), g3.h, fun b' o e => ?_, fun b' e n => ?_, g3.d⟩ ⟨D, acc, rfl, upd_same, pmono pr fun _ _ => rup (same_new nD)⟩
    · by_cases hb : b' = D
      · subst hb; rw [upd_same] at e; cases e; exact hacc
      · rw [upd_ne hb] at e; exact g3.s b' o e
    · rw [upd_ne (fun z => n (by rw [z]; exact hD))]; exact g3.f b' e n
/-- [elt for target in iter if ..] -/
theorem Ev.lc {elt iter : Expr} {ifs : List Expr} {scope : Scope} {own : List (Str × Nat)} {l : List γ} {f : γ → δ} {t : γ → Bool} {g : TG} {B : γ → Hp → St → St → Prop}
    (hi : EI X tg iter σ G l) (hB : TgB g B) (hg : ∀ (s : Shared) (H : Hp) (C : Addr) (cl : List (Str × Addr)) (fp : List Addr), PG (BK X s H scope C cl fp) tg g)
    (ht : ∀ c ∈ l, ∀ G' σ', Same G G' → B c G' (wipe σ (own.map (·.2))) σ' → ∀ s H C cl fp, ETs (BK X s H scope C cl fp) ifs σ' G' (t c))
    (he : ∀ c ∈ l, t c = true → ∀ G' σ', Same G G' → B c G' (wipe σ (own.map (·.2))) σ' → ∀ s H C cl fp, Ev (BK X s H scope C cl fp) elt σ' G' (f c))
    (hw : ∀ c G' σ', B c G' (wipe σ (own.map (·.2))) σ' → wipe σ' (own.map (·.2)) = wipe σ (own.map (·.2)))
    (hz : l.length < sizeLine) (hN : X.N.Nodup) (ok : BlkOk X.N X.env.scope scope own) (hc : X.calm = true := by rfl) (hs : ∀ x, foldedSetIterable iter X.env x = pure x := by intro _; rfl) :
    Ev X (.ListComp elt [⟨tg, iter, ifs, 0⟩] scope pos) σ G ((l.filter t).map f) := fun G1 H1 Q s1 s2 k =>
  WE.of (pe_lc (tt := ATs X scope ifs) (te := AE X scope elt) hc hN pi_wi ok hg (fun s H C cl fp => ⟨fun pins s1 σ' H' Q' I h => h s H C cl fp pins s1 I⟩) (fun s H C cl fp => ⟨fun pins s1 σ' H' Q' I h => h s H C cl fp pins s1 I⟩) hs)
    (hi G1 H1 _ s1 s2 fun J S Y G2 H2 g2 w hS hY D hD => lc_data (Qd := Q) w hS hY hB hw
      (fun c hc' G' σ' sG b H' Q' s3 k' s H C cl fp pins s1' I => ht c hc' G' σ' ((s1.trans g2.g).trans sG) b s H C cl fp G' H' Q' (Same.refl _) s3 k' pins s1' I)
      (fun c hc' tc G' σ' sG b G1' H' Q' s3 s4 k' s H C cl fp => he c hc' tc G' σ' ((s1.trans g2.g).trans sG) b s H C cl fp G1' H' Q' s3 s4 k')
      hz g2.s hD fun G3 H3 v g3 r => k G3 H3 v (g2.trans g3) r)
/-- y = [..] on one line, y a local name -/
theorem Bl.asgLc (i : Nat) {y : Str} {py spos : Pos} {elt iter : Expr} {ifs : List Expr} {scope : Scope} {own : List (Str × Nat)} {l : List γ} {f : γ → δ} {t : γ → Bool} {g : TG} {B : γ → Hp → St → St → Prop}
    (hi : EI X tg iter σ G l) (hB : TgB g B) (hg : ∀ (s : Shared) (H : Hp) (C : Addr) (cl : List (Str × Addr)) (fp : List Addr), PG (BK X s H scope C cl fp) tg g)
    (ht : ∀ c ∈ l, ∀ G' σ', Same G G' → B c G' (wipe σ (own.map (·.2))) σ' → ∀ s H C cl fp, ETs (BK X s H scope C cl fp) ifs σ' G' (t c))
    (he : ∀ c ∈ l, t c = true → ∀ G' σ', Same G G' → B c G' (wipe σ (own.map (·.2))) σ' → ∀ s H C cl fp, Ev (BK X s H scope C cl fp) elt σ' G' (f c))
    (hw : ∀ c G' σ', B c G' (wipe σ (own.map (·.2))) σ' → wipe σ' (own.map (·.2)) = wipe σ (own.map (·.2)))
    (hz : l.length < sizeLine) (hN : X.N.Nodup) (ok : BlkOk X.N X.env.scope scope own)
    (k : ∀ G' v, Same G G' → rp G' v ((l.filter t).map f) → Bl X rest (σ.set i (some v)) G' N R)
    (hsw : swapsWith (.ListComp elt [⟨tg, iter, ifs, 0⟩] scope pos) (some (.Name y py)) spos.line X.env = pure true) (hc : X.calm = true := by rfl) (hy : X.N[i]? = some y := by rfl) (hyl : X.env.scope.names.lookup y = some .local := by rfl) (hs : ∀ x, foldedSetIterable iter X.env x = pure x := by intro _; rfl) :
    Bl X (.Assign [.Name y py] (.ListComp elt [⟨tg, iter, ifs, 0⟩] scope pos) spos :: rest) σ G N R := fun G1 H1 D s1 s2 kn kr =>
  WS.cons (ps_setLc (tt := ATs X scope ifs) (te := AE X scope elt) hc hN hy hyl hsw pi_wi ok hg (fun s H C cl fp => ⟨fun pins s1 σ' H' Q' I h => h s H C cl fp pins s1 I⟩) (fun s H C cl fp => ⟨fun pins s1 σ' H' Q' I h => h s H C cl fp pins s1 I⟩) hs)
    (hi G1 H1 _ s1 s2 fun J S Y G2 H2 g2 w hS hY L hL => lc_data (Qd := fun v H3 => WS X rest D (σ.set i (some v)) H3) w hS hY hB hw
      (fun c hc' G' σ' sG b H' Q' s3 k' s H C cl fp pins s1' I => ht c hc' G' σ' ((s1.trans g2.g).trans sG) b s H C cl fp G' H' Q' (Same.refl _) s3 k' pins s1' I)
      (fun c hc' tc G' σ' sG b G1' H' Q' s3 s4 k' s H C cl fp => he c hc' tc G' σ' ((s1.trans g2.g).trans sG) b s H C cl fp G1' H' Q' s3 s4 k')
      hz g2.s hL fun G3 H3 v g3 r => k G3 v (s1.trans (g2.trans g3).g) r G3 H3 D (Same.refl _) g3.s (fun G4 H4 σ' g4 => kn G4 H4 σ' ((g2.trans g3).trans g4)) fun G4 H4 v g4 => kr G4 H4 v ((g2.trans g3).trans g4))
/-! ### loops that only bind names -/
theorem Bl.for_ {iter : Expr} {body : List Stmt} {l : List γ} {g : TG} {B : γ → Hp → St → St → Prop} (I : Nat → St → Hp → Prop)
    (hi : EI X tg iter σ G l) (hB : TgB g B) (hg : PG X tg g) (h0 : ∀ G', Same G G' → I 0 σ G')
    (hs : ∀ i c σ1 G1, l[i]? = some c → Same G G1 → I i σ1 G1 → ∀ G2 σ2, Same G1 G2 → B c G2 σ1 σ2 → Bl X body σ2 G2 (I (i + 1)) R)
    (k : ∀ σ1 G1, Same G G1 → I l.length σ1 G1 → Bl X rest σ1 G1 N R) (hp : PassesOwn (model X.prog X.w) X.A X.env X.xe) (hc : X.calm = true := by rfl)
    (hso : ∀ x, foldedSetIterable iter X.env x = pure x := by intro _; rfl) : Bl X (.For tg iter body [] pos :: rest) σ G N R := fun G1 H1 D s1 s2 kn kr =>
  WS.cons (ps_for hp hc pi_wi hg pss_ws hso) (hi G1 H1 _ s1 s2 fun J S Y G2 H2 g2 w hS hY => for_it w (fun i σ' H' => ∃ G3, Gr G2 H2 G3 H' ∧ I i σ' G3) ⟨G2, GrM.refl g2.s, h0 G2 (s1.trans g2.g)⟩
    (fun i σ' H' _ ⟨G3, g3, _⟩ => hS H' (g3.g.trans g3.s))
    (fun i x σ' H' H'' hi' ⟨G3, g3, h3⟩ y => by
      obtain ⟨c, G4, hc', g4, r⟩ := hY i H' x H'' hi' y G3 g3.g g3.s
      refine hB c G4 H'' x _ _ g4.s r fun σ2 b => ?_
      exact hs i c σ' G3 hc' ((s1.trans g2.g).trans g3.g) h3 G4 σ2 g4.g b G4 H'' _ (Same.refl _) g4.s (fun G5 H5 σ5 g5 n => ⟨G5, (g3.trans g4).trans g5, n⟩) fun G5 H5 v g5 q => kr G5 H5 v (((g2.trans g3).trans g4).trans g5) q)
    fun σ' H' ⟨G3, g3, h3⟩ => k σ' G3 ((s1.trans g2.g).trans g3.g) h3 G3 H' D (Same.refl _) g3.s (fun G4 H4 σ4 g4 => kn G4 H4 σ4 ((g2.trans g3).trans g4)) fun G4 H4 v g4 => kr G4 H4 v ((g2.trans g3).trans g4))
end
end D1

namespace D1
open PySem L2 Rp
open PyProof.Rows (SetOf_congr StrsAre)

/-! ### set(xs), xs a list of texts of any length below the bound -/
/-- one more item, unless it is there -/
def dd (acc : List Str) (x : Str) : List Str := if acc.any (fun y => y == x) then acc else acc ++ [x]
def dds (l : List Str) : List Str := l.foldl dd []
theorem dd_len (acc : List Str) (x : Str) : (dd acc x).length ≤ acc.length + 1 := by unfold dd; split <;> simp
theorem foldl_dd_len : ∀ (l acc : List Str), (l.foldl dd acc).length ≤ acc.length + l.length
  | [], acc => by simp
  | x :: l, acc => by
    have h1 := foldl_dd_len l (dd acc x)
    have h2 := dd_len acc x
    simp only [List.foldl_cons, List.length_cons]
    omega
theorem dds_len (l : List Str) : (dds l).length ≤ l.length := by have := foldl_dd_len l []; simpa [dds] using this
theorem mem_dd {acc : List Str} {x y : Str} : y ∈ dd acc x ↔ y ∈ acc ∨ y = x := by
  unfold dd
  split
  · rename_i h
    obtain ⟨z, hz, e⟩ := List.any_eq_true.mp h
    have e' : z = x := by simpa using e
    constructor
    · exact .inl
    · rintro (h | rfl)
      · exact h
      · exact e' ▸ hz
  · simp
theorem mem_foldl_dd {y : Str} : ∀ {l acc : List Str}, y ∈ l.foldl dd acc ↔ y ∈ acc ∨ y ∈ l
  | [], acc => by simp
  | x :: l, acc => by
    rw [List.foldl_cons, mem_foldl_dd, mem_dd, List.mem_cons, or_assoc]
theorem mem_dds {l : List Str} {y : Str} : y ∈ dds l ↔ y ∈ l := by unfold dds; rw [mem_foldl_dd]; simp
theorem nodup_dd {acc : List Str} {x : Str} (h : acc.Nodup) : (dd acc x).Nodup := by
  unfold dd
  split
  · exact h
  · rename_i hn
    rw [List.nodup_append]
    refine ⟨h, by simp, fun a ha b hb e => hn ?_⟩
    have e2 : b = x := by simpa using hb
    exact List.any_eq_true.mpr ⟨a, ha, by simp [e, e2]⟩
theorem nodup_foldl_dd : ∀ {l acc : List Str}, acc.Nodup → (l.foldl dd acc).Nodup
  | [], _, h => h
  | x :: l, acc, h => nodup_foldl_dd (l := l) (acc := dd acc x) (nodup_dd h)
theorem nodup_dds (l : List Str) : (dds l).Nodup := nodup_foldl_dd List.nodup_nil
theorem foldl_dd_nodup : ∀ {l acc : List Str}, (acc ++ l).Nodup → l.foldl dd acc = acc ++ l
  | [], acc, _ => by simp
  | x :: l, acc, h => by
    have hx : dd acc x = acc ++ [x] := by
      unfold dd
      rw [if_neg]
      intro hh
      obtain ⟨z, hz, e⟩ := List.any_eq_true.mp hh
      have e' : z = x := by simpa using e
      rw [List.nodup_append] at h
      exact h.2.2 z hz x (by simp) e'
    rw [List.foldl_cons, hx, foldl_dd_nodup (by simpa using h)]
    simp
theorem dds_nodup {l : List Str} (h : l.Nodup) : dds l = l := by unfold dds; rw [foldl_dd_nodup (by simpa using h)]; simp
/-- the sizes are one just if none stands twice -/
theorem dds_length_iff (l : List Str) : (dds l).length = l.length ↔ l.Nodup := by
  constructor
  · intro h
    have key : ∀ (l acc : List Str), acc.Nodup → (l.foldl dd acc).length = acc.length + l.length → (acc ++ l).Nodup := by
      intro l
      induction l with
      | nil => intro acc h _; simpa using h
      | cons x l ih =>
        intro acc h e
        simp only [List.foldl_cons, List.length_cons] at e
        have h1 := foldl_dd_len l (dd acc x)
        have h2 := dd_len acc x
        have h3 : (dd acc x).length = acc.length + 1 := by omega
        have h4 : dd acc x = acc ++ [x] := by
          unfold dd at h3 ⊢
          split
          · rename_i hh; rw [if_pos hh] at h3; omega
          · rfl
        have h5 := ih (dd acc x) (nodup_dd h) (by omega)
        rw [h4] at h5
        simpa using h5
    have := key l [] List.nodup_nil (by simpa [dds] using h)
    simpa using this
  · intro h; rw [dds_nodup h]
theorem dd_any (acc : List Str) (x k : Str) : (dd acc x).any (fun y => y == k) = (acc.any (fun y => y == k) || decide (k = x)) := by
  rw [Bool.eq_iff_iff, Bool.or_eq_true, List.any_eq_true, List.any_eq_true, decide_eq_true_eq]
  constructor
  · rintro ⟨z, hz, e⟩
    rcases mem_dd.mp hz with h | h
    · exact .inl ⟨z, h, e⟩
    · right; have : z = k := by simpa using e
      rw [← this]; exact h
  · rintro (⟨z, hz, e⟩ | h)
    · exact ⟨z, mem_dd.mpr (.inl hz), e⟩
    · exact ⟨x, mem_dd.mpr (.inr rfl), by simp [h]⟩
theorem dd_length (acc : List Str) (x : Str) : (dd acc x).length = if acc.any (fun y => y == x) then acc.length else acc.length + 1 := by unfold dd; split <;> simp

/-- the state of the set behind i items -/
abbrev SetTo (P : Program) (w : World) (S : Addr) (xs : List Str) (i : Nat) (h : Heap) : Prop :=
  h.SetOf (PySem.strKind P w) S (fun k => (dds (xs.take i)).any fun y => y == k) (dds (xs.take i)).length
theorem dds_snoc {xs : List Str} {i : Nat} {x : Str} (h : xs[i]? = some x) : dds (xs.take (i + 1)) = dd (dds (xs.take i)) x := by
  have e : xs.take (i + 1) = xs.take i ++ [x] := by rw [List.take_succ, h]; rfl
  unfold dds
  rw [e, List.foldl_append]; rfl

section
variable {P : Program} {w : World} {A : Around} {R : Result → Shared → Prop} {it : Addr} {fp wr : List Addr} {Gm : Array GenState → Array GenState → Prop} {Pv : Nat → Value → Prop} {St : Nat → Shared → Prop}
theorem setLoop (xs : List Str) (W : WalksS P w A.in1 it fp wr Gm xs.length Pv St) (S : Addr) (hS0 : S ∉ fp) (hv : ∀ i v, Pv i v → ∃ x t, xs[i]? = some x ∧ v = .str x t) (hb : xs.length + 1 < scanBound)
    (m : Nat) : ∀ (i : Nat) (s : Shared), i + m = xs.length → St i s → SetTo P w S xs i s.heap →
      (∀ s', Moved (S :: wr) Gm s s' → SetTo P w S xs xs.length s'.heap → R (.ok (.ret .none)) s') →
      codeAny (model P w) A (.builtin "set.update.loop" ⟨[.ref S, .ref it], []⟩) R s := by
  have nw : S ∉ wr := fun h => hS0 (W.sub _ h)
  have sw : ∀ c ∈ wr, c ∈ S :: wr := fun c h => List.mem_cons_of_mem _ h
  induction m with
  | zero =>
    intro i s hi hst hs hR
    obtain rfl : i = xs.length := by omega
    refine codeAny_builtin PyProof.Rows.F.entry_set_update_loop ?_
    rw [Around.under_plainId PyProof.Rows.F.plain_set_update_loop _]
    show wpAny _ A.in1 (pyNext (.ref it) >>= _) _ _ s
    refine wpAny_bind (W.done s _ _ hst fun s1 mv => ?_)
    show wpAny _ A.in1 (ret Value.none) _ _ s1
    refine wpAny_pure (hR s1 (mv.mono sw) ?_)
    obtain ⟨ob, es, ep, tb, h1, h2⟩ := hs
    exact ⟨ob, es, ep, tb, mv.heap S _ nw h1, h2⟩
  | succ m ih =>
    intro i s hi hst hs hR
    refine codeAny_builtin PyProof.Rows.F.entry_set_update_loop ?_
    rw [Around.under_plainId PyProof.Rows.F.plain_set_update_loop _]
    show wpAny _ A.in1 (pyNext (.ref it) >>= _) _ _ s
    refine wpAny_bind (W.item i s _ _ (by omega) hst fun v s1 hP hst1 mv => ?_)
    obtain ⟨x, tk, hx, rfl⟩ := hv i v hP
    have hs1 : SetTo P w S xs i s1.heap := by
      obtain ⟨ob, es, ep, tb, h1, h2⟩ := hs
      exact ⟨ob, es, ep, tb, mv.heap S _ nw h1, h2⟩
    show wpAny _ A.in1 (holding [Value.str x tk] (setAdd S (.str x tk)) >>= _) _ _ s1
    refine wpAny_bind (wpAny_holding ?_)
    unfold setAdd
    refine wpAny_holding (wpAny_bind ((PySem.strKind P w).pyHash (k := x) (strKind_is _ _ _ _) ?_))
    have room : (dds (xs.take i)).length + 1 < scanBound := by
      have h1 := dds_len (xs.take i)
      have h2 : (xs.take i).length ≤ xs.length := by rw [List.length_take]; omega
      omega
    refine wpAny_setAddHashed_of (knd := PySem.strKind P w) (s := { s1 with toks := s1.toks + 1 }) (strKind_is _ _ _ _) rfl hs1 room fun h2 sb hs2 => ?_
    have hs3 : SetTo P w S xs (i + 1) h2 := SetOf_congr hs2 (fun k => by rw [dds_snoc hx, dd_any]) (by rw [dds_snoc hx, dd_length])
    refine wpAny_pure ⟨plainId_quiet PyProof.Rows.F.plain_set_update_loop _, ih (i + 1) _ (by omega) ?_ hs3 fun s3 mv3 hs4 => ?_⟩
    · refine W.frame _ s1 _ _ hst1 (Nat.le_succ _) fun c hc o e => ?_
      rw [sb.2 c (fun z : c = S => hS0 (by rw [← z]; exact hc))]
      exact e
    · refine hR s3 (Moved.trans W.gtrans ((mv.mono sw).then_heap (Nat.le_succ _) fun c o hc e => ?_) mv3) hs4
      rw [sb.2 c (fun z : c = S => hc (by rw [z]; exact List.mem_cons_self))]
      exact e
end
section
variable {P : Program} {w : World} {A : Around} {E : Value → Shared → Prop} {s : Shared}
theorem call_setStrs {l : Addr} {items : Array Value} (xs : List Str) {Q : Value → Shared → Prop} (hh : A.handled = none) (hl : s.heap.IsList l items) (hi : StrsAre items.toList xs) (hb : xs.length + 1 < scanBound)
    (k : ∀ (h' : Heap) (tk : Nat), h'.SetOf (PySem.strKind P w) s.heap.objs.size (fun k => (dds xs).any fun y => y == k) (dds xs).length → (∀ c o, c < s.heap.objs.size → s.heap.get? c = some o → h'.get? c = some o) → Q (.ref s.heap.objs.size) { s with heap := h', toks := tk }) :
    wpAny (model P w) A (call (.type "set") [.ref l]) Q E s := by
  have zz : xs.length = items.size := by rw [← StrsAre.len_eq hi, Array.length_toList]
  obtain ⟨_, _, aMro⟩ := PySem.F.called_set.mro
  have aMade := PySem.F.called_set.made
  have aSub := PySem.F.called_set.sub
  refine wpAny_call (codeAny_of_tree (show wpAny _ _ (callAny (.type "set") _) _ _ _ from wpAny_pure ⟨Code.quiet_builtin _ (by decide +kernel), codeAny_builtin PySem.F.entry_type_call ?_⟩))
  rw [Around.under_plain (weight_type_call_type "set" [.ref l] []) rfl]
  have aNot := PySem.F.called_set.notType
  have aCan := PySem.F.called_set.canCreate
  have aTc := PySem.F.typeCall_set_1 (.ref l)
  repeat (any_goals (first | assumption | wp_step))
  refine codeAny_mono (code_set_new_1 (.ref l) (E := E) (Q₁ := fun ob s1 => ∃ led : Bool, ob = .ref s.heap.objs.size ∧ s1 = { s with heap := s.heap.push { cls := .type "set", dict := none, data := .set #[] 0 (.fresh 0 0 led) } }) fun led => ⟨led, rfl, rfl⟩) fun r s1 hr => ?_
  match r, hr with
  | .error _, hr => exact hr
  | .ok .next, hr => exact hr.elim
  | .ok .brk, hr => exact hr.elim
  | .ok .cont, hr => exact hr.elim
  | .ok (.ret ob), ⟨led, e1, e2⟩ =>
    subst e1 e2
    have g0 := Heap.get?_push_size (o := ({ cls := .type "set", dict := none, data := .set #[] 0 (.fresh 0 0 led) } : Obj)) s.heap rfl
    have tS : Shared.TypeIs { s with heap := s.heap.push ({ cls := .type "set", dict := none, data := .set #[] 0 (.fresh 0 0 led) } : Obj) } (.ref s.heap.objs.size) "set" := ⟨_, g0, rfl⟩
    have aLi := PySem.F.called_set.init.lookup
    have aBi := PySem.F.called_set.init.bind (.ref s.heap.objs.size)
    repeat (any_goals (first | assumption | wp_step))
    refine codeAny_mono (codeAny_call_builtin (R := wants (fun r s2 => r = .none ∧ ∃ h' tk, s2 = { s with heap := h', toks := tk } ∧ h'.SetOf (PySem.strKind P w) s.heap.objs.size (fun k => (dds xs).any fun y => y == k) (dds xs).length ∧
      (∀ c o, c < s.heap.objs.size → s.heap.get? c = some o → h'.get? c = some o)) E) PySem.F.called_set.init.plain PySem.F.entry_set_init (check_set_init_1 tS ?_)) fun r2 s2 hr2 => ?_
    · obtain ⟨ol, gl, cl, nl, dl⟩ := hl
      obtain ⟨ocls, odict, odata, oslots⟩ := ol
      simp only at cl dl
      subst cl dl
      have gl1 : (s.heap.push { cls := .type "set", dict := none, data := .set #[] 0 (.fresh 0 0 led) }).get? l = some { cls := .type "list", dict := odict, data := .seq items nl, slots := oslots } :=
        Heap.get?_push_of_some _ gl
      have aLs := PySem.F.sub_list_set
      have aLf := PySem.F.sub_list_frozenset
      have aNe : (Value.type "list" == Value.type "dict") = false := by decide
      have hl1 : (s.heap.push { cls := .type "set", dict := none, data := .set #[] 0 (.fresh 0 0 led) }).IsList l items := ⟨_, gl1, rfl, nl, rfl⟩
      unfold Builtin.«set.__init__» noKeywords Builtin.Frozenset.updateFrom
      generalize hPI : pyIter = PI
      wp_walk
      subst hPI
      refine wpAny_pyIter_list hl1 (wpAny_bind (wpAny_runValue ?_))
      have lS : l < s.heap.objs.size := Heap.lt_size gl
      have h3 : A.in1.in1.in1.handled = none := by simp [hh]
      have lI : l ≠ (s.heap.push { cls := .type "set", dict := none, data := .set #[] 0 (.fresh 0 0 led) }).objs.size := by rw [Heap.size_push]; exact Nat.ne_of_lt (Nat.lt_succ_of_lt lS)
      have nS : s.heap.objs.size ∉ [(s.heap.push { cls := .type "set", dict := none, data := .set #[] 0 (.fresh 0 0 led) }).objs.size, l] := by
        rw [Heap.size_push]
        simp only [List.mem_cons, List.not_mem_nil, or_false, not_or]
        exact ⟨Nat.ne_of_lt (Nat.lt_succ_self _), Nat.ne_of_gt lS⟩
      have W := (Walks.list (prog := P) (w := w) h3 (s.heap.push { cls := .type "set", dict := none, data := .set #[] 0 (.fresh 0 0 led) }).objs.size l lI items).toS
      rw [← zz] at W
      refine setLoop xs W s.heap.objs.size nS (fun i v hv => ?_) hb xs.length 0 _ (by omega) ⟨⟨_, Heap.get?_push_size _ rfl, rfl, rfl⟩, hl1.push _⟩ ?_ fun s5 mv hs5 => ?_
      · obtain ⟨tk, ev⟩ := SS.strs_at hi i v (by rw [Array.getElem?_toList]; exact hv)
        have hlt : i < xs.length := by rw [zz]; exact (Array.getElem?_eq_some_iff.mp hv).1
        exact ⟨xs.getD i Str.empty, tk, by simp [List.getD, hlt], ev⟩
      · have g2 : ((s.heap.push { cls := .type "set", dict := none, data := .set #[] 0 (.fresh 0 0 led) }).push { cls := .type "list_iterator", data := .fields #[.ref l, .int 0 0] }).get? s.heap.objs.size = some { cls := .type "set", dict := none, data := .set #[] 0 (.fresh 0 0 led) } :=
          Heap.get?_push_of_some _ g0
        exact SetOf_congr ((PyProof.Rows.setObjOf_fresh (knd := PySem.strKind P w) led).setOf g2 (by unfold scanBound; omega)) (fun _ => by simp [dds]) (by simp [dds])
      · obtain ⟨h5, g5, d5, t5, o5⟩ := s5
        obtain rfl : g5 = s.gens := mv.gens
        obtain rfl : d5 = s.drawn := mv.drawn
        obtain rfl : o5 = s.os := mv.os
        show wpAny _ _ _ _ _ _
        refine wpAny_pure ?_
        show wpAny _ _ (ret Value.none) _ _ _
        refine wpAny_pure ⟨rfl, h5, t5, rfl, SetOf_congr hs5 (fun _ => by rw [List.take_length]) (by rw [List.take_length]), fun c o hc e => mv.heap c o ?_ (Heap.get?_push_of_some _ (Heap.get?_push_of_some _ e))⟩
        have n1 : c ≠ s.heap.objs.size := Nat.ne_of_lt hc
        have n2 : c ≠ (s.heap.push { cls := .type "set", dict := none, data := .set #[] 0 (.fresh 0 0 led) }).objs.size := by rw [Heap.size_push]; exact Nat.ne_of_lt (Nat.lt_succ_of_lt hc)
        simp only [List.mem_cons, List.not_mem_nil, or_false, not_or]
        exact ⟨n1, n2⟩
    · match r2, hr2 with
      | .error _, hr2 => exact hr2
      | .ok .next, hr2 => exact hr2.elim
      | .ok .brk, hr2 => exact hr2.elim
      | .ok .cont, hr2 => exact hr2.elim
      | .ok (.ret r), ⟨e1, h', tk, e2, hS', hk'⟩ =>
        subst e1 e2
        repeat (any_goals (first | assumption | wp_step))
        exact k _ _ hS' hk'
end
end D1

namespace D1
open PySem L2 Rp

/-! ### the order of texts -/
open PySem.Spec (ltCps)
theorem ltc_irrefl : ∀ l : List Nat, ltCps l l = false
  | [] => rfl
  | a :: r => by simp [ltCps, ltc_irrefl r]
theorem ltc_asymm : ∀ {l m : List Nat}, ltCps l m = true → ltCps m l = false
  | [], [], h => by simp [ltCps] at h
  | [], _ :: _, _ => rfl
  | _ :: _, [], h => by simp [ltCps] at h
  | a :: r, b :: t, h => by
    simp only [ltCps, Bool.or_eq_true, decide_eq_true_eq, Bool.and_eq_true, beq_iff_eq] at h
    simp only [ltCps, Bool.or_eq_false_iff, decide_eq_false_iff_not, Bool.and_eq_false_iff, beq_eq_false_iff_ne]
    rcases h with h | ⟨h1, h2⟩
    · exact ⟨by omega, .inl (by omega)⟩
    · exact ⟨by omega, .inr (ltc_asymm h2)⟩
theorem ltc_trans : ∀ {l m n : List Nat}, ltCps l m = true → ltCps m n = true → ltCps l n = true
  | [], [], _, h, _ => by simp [ltCps] at h
  | [], _ :: _, [], _, h => by simp [ltCps] at h
  | [], _ :: _, _ :: _, _, _ => rfl
  | _ :: _, [], _, h, _ => by simp [ltCps] at h
  | _ :: _, _ :: _, [], _, h => by simp [ltCps] at h
  | a :: r, b :: t, c :: u, h1, h2 => by
    simp only [ltCps, Bool.or_eq_true, decide_eq_true_eq, Bool.and_eq_true, beq_iff_eq] at h1 h2 ⊢
    rcases h1 with h1 | ⟨h1, h1'⟩
    · rcases h2 with h2 | ⟨h2, _⟩
      · exact .inl (by omega)
      · exact .inl (by omega)
    · rcases h2 with h2 | ⟨h2, h2'⟩
      · exact .inl (by omega)
      · exact .inr ⟨by omega, ltc_trans h1' h2'⟩
theorem ltc_tri : ∀ {l m : List Nat}, ltCps l m = false → ltCps m l = false → l = m
  | [], [], _, _ => rfl
  | [], _ :: _, h, _ => by simp [ltCps] at h
  | _ :: _, [], _, h => by simp [ltCps] at h
  | a :: r, b :: t, h1, h2 => by
    simp only [ltCps, Bool.or_eq_false_iff, decide_eq_false_iff_not, Bool.and_eq_false_iff, beq_eq_false_iff_ne] at h1 h2
    have e : a = b := by omega
    subst e
    rw [ltc_tri (h1.2.resolve_left (fun z => z rfl)) (h2.2.resolve_left (fun z => z rfl))]
def ltS (a b : Str) : Bool := ltCps a.cps.toList b.cps.toList
def leS (a b : Str) : Bool := !ltS b a
theorem leS_total (a b : Str) : (leS a b || leS b a) = true := by
  unfold leS ltS
  cases h : ltCps b.cps.toList a.cps.toList with
  | false => simp
  | true => simp [ltc_asymm h]
theorem leS_trans (a b c : Str) (h1 : leS a b = true) (h2 : leS b c = true) : leS a c = true := by
  unfold leS ltS at *
  simp only [Bool.not_eq_true'] at *
  cases h : ltCps c.cps.toList a.cps.toList with
  | false => rfl
  | true =>
    cases h3 : ltCps b.cps.toList c.cps.toList with
    | true => have := ltc_trans h3 h; rw [this] at h1; cases h1
    | false =>
      have e := ltc_tri h2 h3
      rw [e] at h; rw [h] at h1; cases h1
theorem str_ext {a b : Str} (h : a.cps.toList = b.cps.toList) : a = b := by
  obtain ⟨a⟩ := a; obtain ⟨b⟩ := b
  have : a = b := Array.toList_inj.mp h
  rw [this]
theorem leS_antisymm {a b : Str} (h1 : leS a b = true) (h2 : leS b a = true) : a = b := by
  unfold leS ltS at *
  simp only [Bool.not_eq_true'] at *
  exact str_ext (ltc_tri h2 h1)
def SortedS (l : List Str) : Prop := l.Pairwise fun a b => leS a b = true
/-- two sorted lists of the same items are one -/
theorem sorted_unique : ∀ {l m : List Str}, l.Perm m → SortedS l → SortedS m → l = m
  | [], m, p, _, _ => (List.nil_perm.mp p).symm
  | a :: l, [], p, _, _ => absurd p.length_eq (by simp)
  | a :: l, b :: m, p, h1, h2 => by
    have hab : a = b := by
      have ha : a ∈ b :: m := p.mem_iff.mp (List.mem_cons_self)
      have hb : b ∈ a :: l := p.mem_iff.mpr (List.mem_cons_self)
      rcases List.mem_cons.mp ha with e | ha
      · exact e
      rcases List.mem_cons.mp hb with e | hb
      · exact e.symm
      exact leS_antisymm (List.rel_of_pairwise_cons h1 hb) (List.rel_of_pairwise_cons h2 ha)
    subst hab
    rw [sorted_unique (List.Perm.cons_inv p) (List.Pairwise.of_cons h1) (List.Pairwise.of_cons h2)]
def sortS (l : List Str) : List Str := l.mergeSort leS
theorem sortS_perm (l : List Str) : (sortS l).Perm l := List.mergeSort_perm l leS
theorem sortS_sorted (l : List Str) : SortedS (sortS l) := List.pairwise_mergeSort leS_trans leS_total l
theorem sortS_eq {l m : List Str} (p : m.Perm l) (h : SortedS m) : sortS l = m := sorted_unique ((sortS_perm l).trans p.symm) (sortS_sorted l) h
theorem sortS_self {l : List Str} (h : SortedS l) : sortS l = l := sortS_eq (List.Perm.refl l) h
theorem sortS_length (l : List Str) : (sortS l).length = l.length := (sortS_perm l).length_eq
theorem mem_sortS {l : List Str} {x : Str} : x ∈ sortS l ↔ x ∈ l := (sortS_perm l).mem_iff
theorem sortS_congr {l m : List Str} (p : l.Perm m) : sortS l = sortS m := sortS_eq ((sortS_perm m).trans p.symm) (sortS_sorted m)
theorem sortS_nodup {l : List Str} (h : l.Nodup) : (sortS l).Nodup := (sortS_perm l).nodup_iff.mpr h
theorem rising_pw : ∀ (p : Str) (l : List Str), PyProof.Rows.risingS p l = true → SortedS (p :: l)
  | p, [], _ => by simp [SortedS]
  | p, x :: r, h => by
    have h' : (!ltCps x.cps.toList p.cps.toList && PyProof.Rows.risingS x r) = true := h
    rw [Bool.and_eq_true] at h'
    have ih := rising_pw x r h'.2
    refine List.Pairwise.cons (fun y hy => ?_) ih
    rcases List.mem_cons.mp hy with rfl | hy
    · exact h'.1
    · exact leS_trans p x y h'.1 (List.rel_of_pairwise_cons ih hy)
theorem sortedS_pw {l : List Str} (h : PyProof.Rows.sortedS l = true) : SortedS l := by
  cases l with
  | nil => exact List.Pairwise.nil
  | cons x r => exact rising_pw x r h

/-! ### built-ins -/
/-- the module's names shadow none of these -/
structure Bt (mg : Str → Option Value) : Prop where
  isinstance : mg "isinstance" = none
  len : mg "len" = none
  set : mg "set" = none
  list : mg "list" = none
  dict : mg "dict" = none
  tuple : mg "tuple" = none
  str : mg "str" = none
  int : mg "int" = none
  bool : mg "bool" = none
  sorted : mg "sorted" = none
  range : mg "range" = none
  enumerate : mg "enumerate" = none
  zip : mg "zip" = none
  sum : mg "sum" = none
  max : mg "max" = none
  min : mg "min" = none
class Ty (α : Type) [Rp α] where
  t : String
  ok : ∀ {K : PySem.W.Frag} {H : Hp} {v : V} {a : α}, rp H v a → TyX K H v (.type t)
instance : Ty Int := ⟨"int", fun h => by cases h; exact .base (.int _)⟩
instance : Ty Bool := ⟨"bool", fun h => by cases h; exact .base (.bl _)⟩
instance : Ty Str := ⟨"str", fun h => by cases h; exact .base (.str _)⟩
instance : Ty Unit := ⟨"NoneType", fun h => by cases h; exact .base .non⟩
instance {α : Type} [Rp α] : Ty (List α) := ⟨"list", fun ⟨p, xs, e, h, _⟩ => by subst e; exact .base (.lst h)⟩
instance {α β : Type} [Rp α] [Rp β] : Ty (α × β) := ⟨"tuple", fun ⟨p, x, y, e, h, _⟩ => by subst e; exact .base (.tup h)⟩
instance {α β γ : Type} [Rp α] [Rp β] [Rp γ] : Ty (T3 α β γ) := ⟨"tuple", fun ⟨p, x, y, z, e, h, _⟩ => by subst e; exact .base (.tup h)⟩
theorem boot_str' : bootBuiltins "str" = some (.type "str") := by decide +kernel
theorem boot_list' : bootBuiltins "list" = some (.type "list") := by decide +kernel
theorem boot_tuple' : bootBuiltins "tuple" = some (.type "tuple") := by decide +kernel
theorem boot_int' : bootBuiltins "int" = some (.type "int") := by decide +kernel
theorem boot_dict' : bootBuiltins "dict" = some (.type "dict") := by decide +kernel
theorem boot_set' : bootBuiltins "set" = some (.type "set") := by decide +kernel
theorem boot_isinstance' : bootBuiltins "isinstance" = some (.builtin "isinstance") := by decide +kernel
theorem boot_len' : bootBuiltins "len" = some (.builtin "len") := by decide +kernel
theorem boot_sorted' : bootBuiltins "sorted" = some (.builtin "sorted") := by decide +kernel
theorem boot_sum' : bootBuiltins "sum" = some (.builtin "sum") := by decide +kernel
theorem boot_max' : bootBuiltins "max" = some (.builtin "max") := by decide +kernel
theorem boot_min' : bootBuiltins "min" = some (.builtin "min") := by decide +kernel
theorem isi_str : kitB "str" "str" = some true := by decide +kernel
theorem isi_list : kitB "list" "list" = some true := by decide +kernel
theorem isi_tuple : kitB "tuple" "tuple" = some true := by decide +kernel
section
variable {α β γ δ : Type} [Rp α] [Rp β] [Rp γ] [Rp δ] {X : Cx} {e a b c tg : Expr} {σ : St} {G : Hp} {pos p q : Pos} {rest : List Stmt} {N : St → Hp → Prop} {R : V → Hp → Prop}
/-- a built-in of one argument, by values -/
def R1K (r : List V → Hp → VK → Prop) (x : α) (z : β) : Prop := ∀ G H v (Q : VK), Same G H → rp G v x → (∀ G2 H2 w, Gr G H G2 H2 → rp G2 w z → Q w H2) → r [v] H Q
theorem Ev.b1 {x : Str} {id : String} {r : List V → Hp → VK → Prop} {d : α} {z : β} (hc : CallR X (.builtin id) r) (hv : bootBuiltins x = some (.builtin id)) (hr : R1K r d z) (hm : X.mg x = none) (h : Ev X e σ G d) (hg : Gl X x := by rfl) (hn : x ≠ "__name__" := by decide) (hdb : (x == ("__debug__" : Str)) = false := by decide)
    (hs : starEach [e] X.env = (false, eval e X.env) :: starEach [] X.env := by rfl) (hpl : (backTo pos (starEach [] X.env)).any (·.1) = false := by rfl) : Ev X (.Call (.Name x p) [e] [] pos) σ G z := fun G1 H1 Q s1 s2 k =>
  WE.of (pe_callB hc hg hm hv (pa_cons pe_we pa_nil hs) hn hdb hs hpl) (h G1 H1 _ s1 s2 fun G2 H2 v g r1 => hr G2 H2 v Q g.s r1 fun G3 H3 w g2 r2 => k G3 H3 w (g.trans g2) r2)
theorem Ev.t1 {x : Str} {id : String} {r : List V → Hp → VK → Prop} {d : α} {z : β} (hc : CallR X (.type id) r) (hv : bootBuiltins x = some (.type id)) (hr : R1K r d z) (hm : X.mg x = none) (h : Ev X e σ G d) (hg : Gl X x := by rfl) (hn : x ≠ "__name__" := by decide) (hdb : (x == ("__debug__" : Str)) = false := by decide)
    (hs : starEach [e] X.env = (false, eval e X.env) :: starEach [] X.env := by rfl) (hpl : (backTo pos (starEach [] X.env)).any (·.1) = false := by rfl) : Ev X (.Call (.Name x p) [e] [] pos) σ G z := fun G1 H1 Q s1 s2 k =>
  WE.of (pe_callTy hc hg hm hv (pa_cons pe_we pa_nil hs) hn hdb hs hpl) (h G1 H1 _ s1 s2 fun G2 H2 v g r1 => hr G2 H2 v Q g.s r1 fun G3 H3 w g2 r2 => k G3 H3 w (g.trans g2) r2)
theorem Ev.lenL {l : List α} (B : Bt X.mg) (h : Ev X e σ G l) (hg : Gl X "len" := by rfl) (hs : starEach [e] X.env = (false, eval e X.env) :: starEach [] X.env := by rfl) (hpl : (backTo pos (starEach [] X.env)).any (·.1) = false := by rfl) : Ev X (.Call (.Name "len" p) [e] [] pos) σ G ((l.length : Nat) : Int) :=
  Ev.b1 call_len boot_len' (fun G H v Q s r k => by
    obtain ⟨q, xs, rfl, h1, pr⟩ := r
    exact ⟨_, xs.length, rfl, .inl ⟨xs, SqL.of (s _ _ h1), rfl⟩, k _ _ _ (GrM.refl s) (by show V.int _ = V.int _; rw [pr.length])⟩) B.len h hg (by decide) (by decide) hs hpl
theorem Ev.lenS {z : Str} (B : Bt X.mg) (h : Ev X e σ G z) (hz : z.length ≤ sizeLine) (hg : Gl X "len" := by rfl) (hs : starEach [e] X.env = (false, eval e X.env) :: starEach [] X.env := by rfl) (hpl : (backTo pos (starEach [] X.env)).any (·.1) = false := by rfl) : Ev X (.Call (.Name "len" p) [e] [] pos) σ G ((z.length : Nat) : Int) :=
  Ev.b1 call_len boot_len' (fun G H v Q s r k => by
    cases r
    exact ⟨_, z.length, rfl, ⟨hz, rfl⟩, k _ _ _ (GrM.refl s) rfl⟩) B.len h hg (by decide) (by decide) hs hpl
theorem Ev.len2 {z : α × β} (B : Bt X.mg) (h : Ev X e σ G z) (hg : Gl X "len" := by rfl) (hs : starEach [e] X.env = (false, eval e X.env) :: starEach [] X.env := by rfl) (hpl : (backTo pos (starEach [] X.env)).any (·.1) = false := by rfl) : Ev X (.Call (.Name "len" p) [e] [] pos) σ G (2 : Int) :=
  Ev.b1 call_len boot_len' (fun G H v Q s r k => by
    obtain ⟨q, x, y, rfl, h1, _⟩ := r
    exact ⟨_, 2, rfl, .inr ⟨[x, y], SqT.of (s _ _ h1), rfl⟩, k _ _ _ (GrM.refl s) rfl⟩) B.len h hg (by decide) (by decide) hs hpl
theorem Ev.len3 {z : T3 α β γ} (B : Bt X.mg) (h : Ev X e σ G z) (hg : Gl X "len" := by rfl) (hs : starEach [e] X.env = (false, eval e X.env) :: starEach [] X.env := by rfl) (hpl : (backTo pos (starEach [] X.env)).any (·.1) = false := by rfl) : Ev X (.Call (.Name "len" p) [e] [] pos) σ G (3 : Int) :=
  Ev.b1 call_len boot_len' (fun G H v Q s r k => by
    obtain ⟨q, x, y, w, rfl, h1, _⟩ := r
    exact ⟨_, 3, rfl, .inr ⟨[x, y, w], SqT.of (s _ _ h1), rfl⟩, k _ _ _ (GrM.refl s) rfl⟩) B.len h hg (by decide) (by decide) hs hpl
/-- isinstance(e, T), T a built-in class -/
theorem Ev.isi [Ty α] {d : α} {x : Str} {n : String} {z : Bool} (B : Bt X.mg) (hx : X.mg x = none) (hv : bootBuiltins x = some (.type n)) (hk : kitB (Ty.t α) n = some z) (h : Ev X e σ G d) (hg : Gl X "isinstance" := by rfl) (hgx : Gl X x := by rfl) (hn : x ≠ "__name__" := by decide) (hdb : (x == ("__debug__" : Str)) = false := by decide)
    (hs : starEach [e, .Name x q] X.env = (false, eval e X.env) :: starEach [.Name x q] X.env := by rfl) (hs2 : starEach [.Name x q] X.env = (false, eval (.Name x q) X.env) :: starEach [] X.env := by rfl) (hpl : (backTo pos (starEach [.Name x q] X.env)).any (·.1) = false := by rfl) :
    Ev X (.Call (.Name "isinstance" p) [e, .Name x q] [] pos) σ G z := fun G1 H1 Q s1 s2 k =>
  WE.of (pe_callB call_isi hg B.isinstance boot_isinstance' (pa_cons pe_we (pa_cons (pe_bltn (v := .ty n) hgx hx hv rfl hn hdb) pa_nil hs2) hs) (by decide) (by decide) hs hpl) (h G1 H1 _ s1 s2 fun G2 H2 v g r => ⟨v, .ty n, .type (Ty.t α), .type n, z, rfl, .ty n, Ty.ok (rup g.s r), kit_ty hk, k G2 H2 _ g rfl⟩)
theorem Ev.isiStr {d : Str} (B : Bt X.mg) (h : Ev X e σ G d) (hg : Gl X "isinstance" := by rfl) (hgx : Gl X "str" := by rfl) (hs : starEach [e, .Name "str" q] X.env = (false, eval e X.env) :: starEach [.Name "str" q] X.env := by rfl) (hs2 : starEach [.Name "str" q] X.env = (false, eval (.Name "str" q) X.env) :: starEach [] X.env := by rfl) (hpl : (backTo pos (starEach [.Name "str" q] X.env)).any (·.1) = false := by rfl) :
    Ev X (.Call (.Name "isinstance" p) [e, .Name "str" q] [] pos) σ G true := Ev.isi (x := "str") B B.str boot_str' isi_str h hg hgx (by decide) (by decide) hs hs2 hpl
theorem Ev.isiList {d : List α} (B : Bt X.mg) (h : Ev X e σ G d) (hg : Gl X "isinstance" := by rfl) (hgx : Gl X "list" := by rfl) (hs : starEach [e, .Name "list" q] X.env = (false, eval e X.env) :: starEach [.Name "list" q] X.env := by rfl) (hs2 : starEach [.Name "list" q] X.env = (false, eval (.Name "list" q) X.env) :: starEach [] X.env := by rfl) (hpl : (backTo pos (starEach [.Name "list" q] X.env)).any (·.1) = false := by rfl) :
    Ev X (.Call (.Name "isinstance" p) [e, .Name "list" q] [] pos) σ G true := Ev.isi (x := "list") B B.list boot_list' isi_list h hg hgx (by decide) (by decide) hs hs2 hpl
theorem Ev.isiT3 {d : T3 α β γ} (B : Bt X.mg) (h : Ev X e σ G d) (hg : Gl X "isinstance" := by rfl) (hgx : Gl X "tuple" := by rfl) (hs : starEach [e, .Name "tuple" q] X.env = (false, eval e X.env) :: starEach [.Name "tuple" q] X.env := by rfl) (hs2 : starEach [.Name "tuple" q] X.env = (false, eval (.Name "tuple" q) X.env) :: starEach [] X.env := by rfl) (hpl : (backTo pos (starEach [.Name "tuple" q] X.env)).any (·.1) = false := by rfl) :
    Ev X (.Call (.Name "isinstance" p) [e, .Name "tuple" q] [] pos) σ G true := Ev.isi (x := "tuple") B B.tuple boot_tuple' isi_tuple h hg hgx (by decide) (by decide) hs hs2 hpl
theorem Ev.isiT2 {d : α × β} (B : Bt X.mg) (h : Ev X e σ G d) (hg : Gl X "isinstance" := by rfl) (hgx : Gl X "tuple" := by rfl) (hs : starEach [e, .Name "tuple" q] X.env = (false, eval e X.env) :: starEach [.Name "tuple" q] X.env := by rfl) (hs2 : starEach [.Name "tuple" q] X.env = (false, eval (.Name "tuple" q) X.env) :: starEach [] X.env := by rfl) (hpl : (backTo pos (starEach [.Name "tuple" q] X.env)).any (·.1) = false := by rfl) :
    Ev X (.Call (.Name "isinstance" p) [e, .Name "tuple" q] [] pos) σ G true := Ev.isi (x := "tuple") B B.tuple boot_tuple' isi_tuple h hg hgx (by decide) (by decide) hs hs2 hpl
/-- the texts of a list, as values -/
theorem strs_of : ∀ {H : Hp} {xs : List V} {l : List Str}, Paired (rp H) xs l → xs = l.map V.str
  | _, _, _, .nil => rfl
  | _, _, _, .cons r t => by rw [List.map_cons, ← strs_of t, show _ = V.str _ from r]
theorem strs_to {H : Hp} : ∀ l : List Str, Paired (rp H) (l.map V.str) l
  | [] => .nil
  | _ :: r => .cons rfl (strs_to r)
theorem ints_of : ∀ {H : Hp} {xs : List V} {l : List Int}, Paired (rp H) xs l → xs = l.map V.int
  | _, _, _, .nil => rfl
  | _, _, _, .cons r t => by rw [List.map_cons, ← ints_of t, show _ = V.int _ from r]
theorem ints_to {H : Hp} : ∀ l : List Int, Paired (rp H) (l.map V.int) l
  | [] => .nil
  | _ :: r => .cons rfl (ints_to r)
/-- sorted(xs), texts -/
theorem Ev.sortedS {l : List Str} (B : Bt X.mg) (h : Ev X e σ G l) (hl : l.length < 64) (hg : Gl X "sorted" := by rfl) (hs : starEach [e] X.env = (false, eval e X.env) :: starEach [] X.env := by rfl) (hpl : (backTo pos (starEach [] X.env)).any (·.1) = false := by rfl) : Ev X (.Call (.Name "sorted" p) [e] [] pos) σ G (sortS l) :=
  Ev.b1 cr_sortedS boot_sorted' (fun G H v Q s r k => by
    obtain ⟨q, xs, rfl, h1, pr⟩ := r
    have e1 := strs_of pr
    subst e1
    refine ⟨q, l, rfl, SqL.of (s _ _ h1), hl, fun ys p' pm so hp => ?_⟩
    have e2 : ys = sortS l := (sortS_eq pm (sortedS_pw so)).symm
    subst e2
    have g := Gr.new (o := .lst ((sortS l).map V.str)) s hp
    exact k _ _ _ g ⟨p', _, rfl, upd_same, strs_to _⟩) B.sorted h hg (by decide) (by decide) hs hpl
/-- list(xs) -/
theorem Ev.listOf {l : List α} (B : Bt X.mg) (h : Ev X e σ G l) (hg : Gl X "list" := by rfl) (hs : starEach [e] X.env = (false, eval e X.env) :: starEach [] X.env := by rfl) (hpl : (backTo pos (starEach [] X.env)).any (·.1) = false := by rfl) : Ev X (.Call (.Name "list" p) [e] [] pos) σ G l :=
  Ev.t1 call_list_of boot_list' (fun G H v Q s r k => by
    obtain ⟨q, xs, rfl, h1, pr⟩ := r
    refine ⟨q, xs, rfl, .inl (SqL.of (s _ _ h1)), fun p' hp => ?_⟩
    have g := Gr.new (o := .lst xs) s hp
    exact k _ _ _ g ⟨p', _, rfl, upd_same, pmono pr fun _ _ => rup g.g⟩) B.list h hg (by decide) (by decide) hs hpl
/-- sum(xs), ints -/
theorem Ev.sumI {l : List Int} (B : Bt X.mg) (h : Ev X e σ G l) (hc : X.calm = true := by rfl) (hg : Gl X "sum" := by rfl) (hs : starEach [e] X.env = (false, eval e X.env) :: starEach [] X.env := by rfl) (hpl : (backTo pos (starEach [] X.env)).any (·.1) = false := by rfl) : Ev X (.Call (.Name "sum" p) [e] [] pos) σ G l.sum :=
  Ev.b1 (cr_sum hc) boot_sum' (fun G H v Q s r k => by
    obtain ⟨q, xs, rfl, h1, pr⟩ := r
    have e1 := ints_of pr
    subst e1
    exact ⟨q, l, rfl, SqL.of (s _ _ h1), k _ _ _ (GrM.refl s) rfl⟩) B.sum h hg (by decide) (by decide) hs hpl
/-- max(a, b), min(a, b) -/
theorem Ev.max2 {i j : Int} (B : Bt X.mg) (h : Ev X a σ G i) (h2 : Ev X b σ G j) (hc : X.calm = true := by rfl) (hg : Gl X "max" := by rfl) (hs : starEach [a, b] X.env = (false, eval a X.env) :: starEach [b] X.env := by rfl) (hs2 : starEach [b] X.env = (false, eval b X.env) :: starEach [] X.env := by rfl) (hpl : (backTo pos (starEach [b] X.env)).any (·.1) = false := by rfl) :
    Ev X (.Call (.Name "max" p) [a, b] [] pos) σ G (if j > i then j else i) := fun G1 H1 Q s1 s2 k =>
  WE.of (pe_callB (call_max2 hc) hg B.max boot_max' (pa_cons pe_we (pa_cons pe_we pa_nil hs2) hs) (by decide) (by decide) hs hpl) (h G1 H1 _ s1 s2 fun G2 H2 v g r => h2 G2 H2 _ (s1.trans g.g) g.s fun G3 H3 u g2 r2 => by
    cases r; cases r2; exact ⟨i, j, rfl, k _ _ _ (g.trans g2) rfl⟩)
theorem Ev.min2 {i j : Int} (B : Bt X.mg) (h : Ev X a σ G i) (h2 : Ev X b σ G j) (hc : X.calm = true := by rfl) (hg : Gl X "min" := by rfl) (hs : starEach [a, b] X.env = (false, eval a X.env) :: starEach [b] X.env := by rfl) (hs2 : starEach [b] X.env = (false, eval b X.env) :: starEach [] X.env := by rfl) (hpl : (backTo pos (starEach [b] X.env)).any (·.1) = false := by rfl) :
    Ev X (.Call (.Name "min" p) [a, b] [] pos) σ G (if j < i then j else i) := fun G1 H1 Q s1 s2 k =>
  WE.of (pe_callB (call_min2 hc) hg B.min boot_min' (pa_cons pe_we (pa_cons pe_we pa_nil hs2) hs) (by decide) (by decide) hs hpl) (h G1 H1 _ s1 s2 fun G2 H2 v g r => h2 G2 H2 _ (s1.trans g.g) g.s fun G3 H3 u g2 r2 => by
    cases r; cases r2; exact ⟨i, j, rfl, k _ _ _ (g.trans g2) rfl⟩)
/-- len(set(xs)), texts -/
def tLenSetN (K : PySem.W.Frag) (ta : TE) : TE := fun σ H Q => ta σ H fun x H1 => ∃ (l : Addr) (xs : List Str), x = .ref l ∧ SqL K H1 l (xs.map V.str) ∧ xs.length + 1 < scanBound ∧ Q (.int ((dds xs).length : Nat)) H1
theorem pe_lenSetN {ta : TE} (hc : X.calm = true) (hg : Gl X "len") (hm : X.mg "len" = none) (hg2 : Gl X "set") (hm2 : X.mg "set" = none) (ha : PE X a ta) (na : starEach [a] X.env = (false, eval a X.env) :: starEach [] X.env := by rfl) :
    PE X (.Call (.Name "len" p) [.Call (.Name "set" q) [a] [] tpos] [] pos) (tLenSetN X.K ta) := by
  refine ⟨fun pins s σ H Q I h => PyProof.Rows.Call_ (ld_blt I hg hm boot_len' (PyProof.Rows.callWith_builtin1 (PyProof.Rows.args_cons (PyProof.Rows.Call_ (ld_blt I hg2 hm2 boot_set' ?_)) rfl) rfl rfl))⟩
  refine PyProof.Rows.callWith_type1 (PyProof.Rows.args_cons (thn (ha.run pins s σ H _ I h) fun v s1 ⟨x, H1, I1, r1, q1⟩ => PyProof.Rows.args_nil ?_) na) na rfl
  obtain ⟨l, xs, rfl, hq, hb, q1⟩ := q1
  cases r1
  obtain ⟨its, r, pl, hz⟩ := I1.list hq
  refine call_setStrs xs (I1.ok.hd hc) pl.isList (by simpa using strsAre_of r) hb fun h' tk hS hk => PyProof.Rows.args_nil ?_
  obtain ⟨o, es, ep, t, ho, hex, hd, _, _, _, hf, hn⟩ := hS
  have I2 : Inv X pins σ H1 { s1 with heap := h', toks := tk } := I1.kept fun b o e => hk b o (Heap.lt_size e) e
  have hlt : ((es.size : Nat) : Int) < 2 ^ 63 := by
    have h1 := dds_len xs
    unfold scanBound at hb
    rw [hn]
    have : ((dds xs).length : Int) < 4096 := by omega
    exact Int.lt_trans this (by decide)
  exact call_len_set ho hex hd hf hlt ⟨.int ((dds xs).length : Nat), H1, I2.tok _, ⟨_, by rw [hn]⟩, q1⟩
theorem Ev.lenSet {l : List Str} {tpos : Pos} (B : Bt X.mg) (h : Ev X a σ G l) (hb : l.length < 4000) (hc : X.calm = true := by rfl) (hg : Gl X "len" := by rfl) (hg2 : Gl X "set" := by rfl) (na : starEach [a] X.env = (false, eval a X.env) :: starEach [] X.env := by rfl) :
    Ev X (.Call (.Name "len" p) [.Call (.Name "set" q) [a] [] tpos] [] pos) σ G (((dds l).length : Nat) : Int) := fun G1 H1 Q s1 s2 k =>
  WE.of (pe_lenSetN hc hg B.len hg2 B.set pe_we na) (h G1 H1 _ s1 s2 fun G2 H2 v g r => by
    obtain ⟨q, xs, rfl, h1, pr⟩ := r
    have e1 := strs_of pr
    subst e1
    exact ⟨q, l, rfl, SqL.of (g.s _ _ h1), by unfold scanBound; omega, k _ _ _ g rfl⟩)

/-! ### subscripts -/
theorem Ev.ixL {l : List α} {i : Int} {d : α} (ha : Ev X a σ G l) (hb : Ev X b σ G i) (h : atI l i = some d) (hs : PlainIx b := by exact fun _ _ => rfl) : Ev X (.Subscript a b pos) σ G d := fun G1 H1 Q s1 s2 k =>
  WE.of (pe_ix ix_list pe_we pe_we hs) (ha G1 H1 _ s1 s2 fun G2 H2 v g r => hb G2 H2 _ (s1.trans g.g) g.s fun G3 H3 u g2 r2 => by
    obtain ⟨q, xs, rfl, h1, pr⟩ := rup g2.g r
    cases r2
    unfold atI at h
    rw [← pr.length] at h
    cases hi : ixN xs.length i with
    | none => rw [hi] at h; cases h
    | some j =>
      rw [hi] at h
      have hj : j < xs.length := (ixN_seq hi).2.1
      obtain ⟨d2, e1, e2⟩ := paired_at pr (List.getElem?_eq_getElem hj)
      have e3 : d2 = d := Option.some.inj (e1.symm.trans h)
      subst e3
      exact ⟨q, xs, i, xs[j], rfl, rfl, SqL.of (g2.s _ _ h1), by unfold atI; rw [hi]; exact List.getElem?_eq_getElem hj, k _ _ _ (g.trans g2) e2⟩)
theorem Ev.ix30 {t : T3 α β γ} {j ip} (ha : Ev X a σ G t) : Ev X (.Subscript a (.Constant (.int 0) j ip) pos) σ G t.a := fun G1 H1 Q s1 s2 k =>
  WE.of (pe_ix ix_tup pe_we pe_int (fun _ _ => rfl)) (ha G1 H1 _ s1 s2 fun G2 H2 v g r => by
    obtain ⟨q, x, y, z, rfl, h1, r1, r2, r3⟩ := r
    exact ⟨q, [x, y, z], 0, x, rfl, rfl, SqT.of (g.s _ _ h1), rfl, k _ _ _ g r1⟩)
theorem Ev.ix31 {t : T3 α β γ} {j ip} (ha : Ev X a σ G t) : Ev X (.Subscript a (.Constant (.int 1) j ip) pos) σ G t.b := fun G1 H1 Q s1 s2 k =>
  WE.of (pe_ix ix_tup pe_we pe_int (fun _ _ => rfl)) (ha G1 H1 _ s1 s2 fun G2 H2 v g r => by
    obtain ⟨q, x, y, z, rfl, h1, r1, r2, r3⟩ := r
    exact ⟨q, [x, y, z], 1, y, rfl, rfl, SqT.of (g.s _ _ h1), rfl, k _ _ _ g r2⟩)
theorem Ev.ix32 {t : T3 α β γ} {j ip} (ha : Ev X a σ G t) : Ev X (.Subscript a (.Constant (.int 2) j ip) pos) σ G t.c := fun G1 H1 Q s1 s2 k =>
  WE.of (pe_ix ix_tup pe_we pe_int (fun _ _ => rfl)) (ha G1 H1 _ s1 s2 fun G2 H2 v g r => by
    obtain ⟨q, x, y, z, rfl, h1, r1, r2, r3⟩ := r
    exact ⟨q, [x, y, z], 2, z, rfl, rfl, SqT.of (g.s _ _ h1), rfl, k _ _ _ g r3⟩)
/-- a part of a slice -/
def EO (X : Cx) (e : Option Expr) (σ : St) (G : Hp) (o : Option Int) : Prop := ∀ G1 H1 (Q : Option Int → Hp → Prop), Same G G1 → Same G1 H1 → (∀ G2 H2, Gr G1 H1 G2 H2 → Q o H2) → ∃ t, PO X e t ∧ t σ H1 Q
theorem EO.no : EO X none σ G none := fun G1 H1 Q s1 s2 k => ⟨_, po_none, k G1 H1 (GrM.refl s2)⟩
/-- xs[:b], xs[a:], xs[a:b] of a list -/
theorem cutV_pair {F : V → α → Prop} {xs : List V} {l : List α} (pr : Paired F xs l) (n m : Nat) : Paired F ((xs.drop n).take m) ((l.drop n).take m) := by
  have hd : ∀ (n : Nat) {xs : List V} {l : List α}, Paired F xs l → Paired F (xs.drop n) (l.drop n) := by
    intro n
    induction n with
    | zero => intro xs l h; simpa using h
    | succ n ih =>
      intro xs l h
      cases h with
      | nil => simp; exact .nil
      | cons r t => simpa using ih t
  have ht : ∀ (m : Nat) {xs : List V} {l : List α}, Paired F xs l → Paired F (xs.take m) (l.take m) := by
    intro m
    induction m with
    | zero => intro xs l h; simp; exact .nil
    | succ n ih =>
      intro xs l h
      cases h with
      | nil => simp; exact .nil
      | cons r t => simpa using .cons r (ih t)
  exact ht m (hd n pr)
def cutL (l : List α) (lo hi : Option Int) : List α := (l.drop (HT.sIx l.length 0 lo)).take (HT.sIx l.length l.length hi - HT.sIx l.length 0 lo)
theorem rSl_data {l : List α} {lo hi : Option Int} {H : Hp} {v : V} {Q : VK} (s : Same G H) (r : rp G v l) (k : ∀ G2 H2 w, Gr G H G2 H2 → rp G2 w (cutL l lo hi) → Q w H2) : rSlL X.K v lo hi H Q := by
  obtain ⟨q, xs, rfl, h1, pr⟩ := r
  refine ⟨q, xs, rfl, SqL.of (s _ _ h1), fun p hp => ?_⟩
  have g := Gr.new (o := .lst (cutV xs lo hi)) s hp
  have hh : ∀ H', Paired (rp H') xs l → Paired (rp H') (cutV xs lo hi) (cutL l lo hi) := fun H' pr => by
    unfold cutV cutL
    rw [pr.length]
    exact cutV_pair pr _ _
  exact k _ _ _ g ⟨p, _, rfl, upd_same, hh _ (pmono pr fun _ _ => rup g.g)⟩
theorem Ev.slTo {l : List α} {i : Int} {p2 : Pos} (ha : Ev X a σ G l) (hb : Ev X b σ G i) : Ev X (.Subscript a (.Slice none (some b) none p2) pos) σ G (cutL l none (some i)) := fun G1 H1 Q s1 s2 k =>
  WE.of (pe_slice sl_list pe_we po_none (po_some pe_we)) (ha G1 H1 _ s1 s2 fun G2 H2 v g r => hb G2 H2 _ (s1.trans g.g) g.s fun G3 H3 u g2 r2 => ⟨i, r2, rSl_data g2.s (rup g2.g r) fun G4 H4 w g3 r3 => k _ _ _ ((g.trans g2).trans g3) r3⟩)
theorem Ev.slFrom {l : List α} {i : Int} {p2 : Pos} (ha : Ev X a σ G l) (hb : Ev X b σ G i) : Ev X (.Subscript a (.Slice (some b) none none p2) pos) σ G (cutL l (some i) none) := fun G1 H1 Q s1 s2 k =>
  WE.of (pe_slice sl_list pe_we (po_some pe_we) po_none) (ha G1 H1 _ s1 s2 fun G2 H2 v g r => hb G2 H2 _ (s1.trans g.g) g.s fun G3 H3 u g2 r2 => ⟨i, r2, rSl_data g2.s (rup g2.g r) fun G4 H4 w g3 r3 => k _ _ _ ((g.trans g2).trans g3) r3⟩)
theorem cutL_to {l : List α} {n : Nat} : cutL l none (some (n : Int)) = l.take n := by
  unfold cutL
  rw [HT.sIx_none, HT.sIx_nat, List.drop_zero, Nat.sub_zero]
  by_cases h : n ≤ l.length
  · rw [Nat.min_eq_left h]
  · rw [Nat.min_eq_right (by omega), List.take_of_length_le (Nat.le_refl _), List.take_of_length_le (by omega)]
theorem cutL_from {l : List α} {n : Nat} : cutL l (some (n : Int)) none = l.drop n := by
  unfold cutL
  rw [HT.sIx_none, HT.sIx_nat]
  by_cases h : n ≤ l.length
  · rw [Nat.min_eq_left h, List.take_of_length_le (by simp)]
  · rw [Nat.min_eq_right (by omega)]
    simp
    omega
/-! ### texts -/
theorem Ev.join {z : Str} {l : List Str} {apos : Pos} (ha : Ev X a σ G z) (hb : Ev X b σ G l) (hz : (l.map (·.length)).sum + l.length * z.length ≤ 16777216) (hs : starEach [b] X.env = [(false, eval b X.env)] := by rfl) (hbase : attributeBase a "join" X.env (eval a X.env) = eval a X.env := by rfl) (hline : (apos.endLine == pos.line) = true := by rfl) :
    Ev X (.Call (.Attribute a "join" apos) [b] [] pos) σ G (Txt.join z l) := fun G1 H1 Q s1 s2 k =>
  WE.of (pe_join pe_we pe_we hs hbase hline) (ha G1 H1 _ s1 s2 fun G2 H2 v g r => by
    cases r
    refine ⟨⟨z, rfl⟩, hb G2 H2 _ (s1.trans g.g) g.s fun G3 H3 u g2 r2 => ?_⟩
    obtain ⟨q, xs, rfl, h1, pr⟩ := r2
    have e1 := strs_of pr
    subst e1
    exact ⟨z, q, l, rfl, rfl, .inl (SqL.of (g2.s _ _ h1)), hz, k _ _ _ (g.trans g2) rfl⟩)
theorem Ev.split {z y : Str} {apos : Pos} (ha : Ev X a σ G z) (hb : Ev X b σ G y) (hy : (y.length == 0) = false) (hz : z.length + 2 ≤ sizeLine) (hs : starEach [b] X.env = [(false, eval b X.env)] := by rfl) (hbase : attributeBase a "split" X.env (eval a X.env) = eval a X.env := by rfl) (hline : (apos.endLine == pos.line) = true := by rfl) :
    Ev X (.Call (.Attribute a "split" apos) [b] [] pos) σ G (Txt.split z y) := fun G1 H1 Q s1 s2 k =>
  WE.of (pe_split pe_we pe_we hs hbase hline) (ha G1 H1 _ s1 s2 fun G2 H2 v g r => by
    cases r
    refine ⟨⟨z, rfl⟩, hb G2 H2 _ (s1.trans g.g) g.s fun G3 H3 u g2 r2 => ?_⟩
    cases r2
    refine ⟨z, y, rfl, rfl, hy, hz, fun p hp => ?_⟩
    have g3 := Gr.new (o := .lst ((Txt.split z y).map V.str)) g2.s hp
    exact k _ _ _ ((g.trans g2).trans g3) ⟨p, _, rfl, upd_same, strs_to _⟩)
theorem Ev.partition {z y : Str} {apos : Pos} (ha : Ev X a σ G z) (hb : Ev X b σ G y) (hy : (y.length == 0) = false) (hz : z.length ≤ sizeLine) (hs : starEach [b] X.env = [(false, eval b X.env)] := by rfl) (hbase : attributeBase a "partition" X.env (eval a X.env) = eval a X.env := by rfl) (hline : (apos.endLine == pos.line) = true := by rfl) :
    Ev X (.Call (.Attribute a "partition" apos) [b] [] pos) σ G (T3.mk (Txt.partition z y).1 (Txt.partition z y).2.1 (Txt.partition z y).2.2) := fun G1 H1 Q s1 s2 k =>
  WE.of (pe_partition pe_we pe_we hs hbase hline) (ha G1 H1 _ s1 s2 fun G2 H2 v g r => by
    cases r
    refine ⟨⟨z, rfl⟩, hb G2 H2 _ (s1.trans g.g) g.s fun G3 H3 u g2 r2 => ?_⟩
    cases r2
    refine ⟨z, y, rfl, rfl, hy, hz, fun p hp => ?_⟩
    have g3 := Gr.new (o := .tup [.str (Txt.partition z y).1, .str (Txt.partition z y).2.1, .str (Txt.partition z y).2.2]) g2.s hp
    exact k _ _ _ ((g.trans g2).trans g3) ⟨p, _, _, _, rfl, upd_same, rfl, rfl, rfl⟩)
end
end D1

namespace D1
open PySem L2 Rp
theorem _root_.L2.Room.units65 {k : Nat} {A : Around} (r : Room k A) : A.units + 65 < cLine := by have := r.un; omega
theorem filter_yes {α : Type} (l : List α) : l.filter (fun _ => true) = l := by induction l with
  | nil => rfl
  | cons a r ih => simp
theorem wipe_b1 {γ : Type} [Rp γ] {σ : St} {i : Nat} {c : γ} {G : Hp} {σ' : St} (h : B1 i c G (wipe σ [i]) σ') : wipe σ' [i] = wipe σ [i] := by
  obtain ⟨v, _, rfl⟩ := h
  show ((σ.set i none).set i (some v)).set i none = σ.set i none
  rw [List.set_set, List.set_set]
theorem wipe_b2 {α β : Type} [Rp α] [Rp β] {σ : St} {i j : Nat} (hij : i ≠ j) {c : α × β} {G : Hp} {σ' : St} (h : B2 i j c G (wipe σ [i, j]) σ') : wipe σ' [i, j] = wipe σ [i, j] := by
  obtain ⟨u, w, _, _, rfl⟩ := h
  show (((((σ.set j none).set i none).set i (some u)).set j (some w)).set j none).set i none = (σ.set j none).set i none
  simp only [List.set_set]
  rw [List.set_comm _ _ hij, List.set_set, List.set_set]
section
variable {α β γ δ : Type} [Rp α] [Rp β] [Rp γ] [Rp δ] {X : Cx} {σ : St} {G : Hp} {pos px : Pos} {elt iter c : Expr} {scope : Scope} {rest : List Stmt} {N : St → Hp → Prop} {R : V → Hp → Prop}
/-- [elt for x in iter if c] -/
theorem Ev.lcIf (i : Nat) {x : Str} {l : List γ} {f : γ → δ} {t : γ → Bool} (hi : EI X (.Name x px) iter σ G l)
    (ht : ∀ d ∈ l, ∀ G' v, Same G G' → rp G' v d → ∀ s H C cl fp, ET (BK X s H scope C cl fp) c ((wipe σ [i]).set i (some v)) G' (t d))
    (he : ∀ d ∈ l, t d = true → ∀ G' v, Same G G' → rp G' v d → ∀ s H C cl fp, Ev (BK X s H scope C cl fp) elt ((wipe σ [i]).set i (some v)) G' (f d))
    (hz : l.length < sizeLine) (hN : X.N.Nodup) (ok : BlkOk X.N X.env.scope scope [(x, i)]) (hx : X.N[i]? = some x := by rfl) (lx : Loc (relS scope X.env.scope) x := by first | exact Or.inl rfl | exact Or.inr rfl)
    (fx : (scope.names.lookup x == some .cell) = true ∨ (relS scope X.env.scope).names.lookup x = some .local := by first | exact .inr rfl | exact .inl rfl) (hc : X.calm = true := by rfl) (hs : ∀ y, foldedSetIterable iter X.env y = pure y := by intro _; rfl) :
    Ev X (.ListComp elt [⟨.Name x px, iter, [c], 0⟩] scope pos) σ G ((l.filter t).map f) :=
  Ev.lc (own := [(x, i)]) hi tgB1 (fun _ _ _ _ _ => pg_name hN hx lx fx) (fun d hd G' σ' s1 ⟨v, r, e⟩ s H C cl fp => e ▸ ETs.one (ht d hd G' v s1 r s H C cl fp)) (fun d hd td G' σ' s1 ⟨v, r, e⟩ s H C cl fp => e ▸ he d hd td G' v s1 r s H C cl fp) (fun _ _ _ b => wipe_b1 b) hz hN ok hc hs
/-- [x for x in iter if c] -/
theorem Ev.lcSel (i : Nat) {x : Str} {px2 : Pos} {l : List γ} {t : γ → Bool} (hi : EI X (.Name x px) iter σ G l)
    (ht : ∀ d ∈ l, ∀ G' v, Same G G' → rp G' v d → ∀ s H C cl fp, ET (BK X s H scope C cl fp) c ((wipe σ [i]).set i (some v)) G' (t d))
    (hz : l.length < sizeLine) (hN : X.N.Nodup) (ok : BlkOk X.N X.env.scope scope [(x, i)]) (hσ : i < σ.length := by exact Nat.le_of_ble_eq_true rfl) (hx : X.N[i]? = some x := by rfl) (lx : Loc (relS scope X.env.scope) x := by first | exact Or.inl rfl | exact Or.inr rfl)
    (fx : (scope.names.lookup x == some .cell) = true ∨ (relS scope X.env.scope).names.lookup x = some .local := by first | exact .inr rfl | exact .inl rfl) (vx : Vis (relS scope X.env.scope) x := by first | exact Or.inl rfl | exact Or.inr (Or.inl rfl) | exact Or.inr (Or.inr rfl)) (hd : (x == ("__debug__" : Str)) = false := by decide) (hcd : (x == ("__classdict__" : Str)) = false := by decide)
    (hc : X.calm = true := by rfl) (hs : ∀ y, foldedSetIterable iter X.env y = pure y := by intro _; rfl) :
    Ev X (.ListComp (.Name x px2) [⟨.Name x px, iter, [c], 0⟩] scope pos) σ G (l.filter t) := by
  have h := Ev.lcIf (pos := pos) (elt := .Name x px2) (f := fun d => d) i hi ht (fun d _ _ G' v s1 r s H C cl fp => Ev.v i (by rw [List.getElem?_set_self (by rw [wipe_length]; exact hσ)]) r hx vx hd hcd) hz hN ok hx lx fx hc hs
  rwa [List.map_id'] at h
/-- [elt for x in iter] -/
theorem Ev.lcMap (i : Nat) {x : Str} {l : List γ} {f : γ → δ} (hi : EI X (.Name x px) iter σ G l)
    (he : ∀ d ∈ l, ∀ G' v, Same G G' → rp G' v d → ∀ s H C cl fp, Ev (BK X s H scope C cl fp) elt ((wipe σ [i]).set i (some v)) G' (f d))
    (hz : l.length < sizeLine) (hN : X.N.Nodup) (ok : BlkOk X.N X.env.scope scope [(x, i)]) (hx : X.N[i]? = some x := by rfl) (lx : Loc (relS scope X.env.scope) x := by first | exact Or.inl rfl | exact Or.inr rfl)
    (fx : (scope.names.lookup x == some .cell) = true ∨ (relS scope X.env.scope).names.lookup x = some .local := by first | exact .inr rfl | exact .inl rfl) (hc : X.calm = true := by rfl) (hs : ∀ y, foldedSetIterable iter X.env y = pure y := by intro _; rfl) :
    Ev X (.ListComp elt [⟨.Name x px, iter, [], 0⟩] scope pos) σ G (l.map f) := by
  have h := Ev.lc (pos := pos) (own := [(x, i)]) (f := f) (t := fun _ => true) hi tgB1 (fun _ _ _ _ _ => pg_name hN hx lx fx) (fun d hd G' σ' s1 _ s H C cl fp => ETs.nil) (fun d hd td G' σ' s1 ⟨v, r, e⟩ s H C cl fp => e ▸ he d hd G' v s1 r s H C cl fp) (fun _ _ _ b => wipe_b1 b) hz hN ok hc hs
  rwa [filter_yes] at h
/-- [elt for x, y in iter] -/
theorem Ev.lcMap2 (i j : Nat) {x y : Str} {py pt : Pos} {kt} {l : List (α × β)} {f : α × β → δ} (hi : EI X (.Tuple [.Name x px, .Name y py] kt pt) iter σ G l)
    (he : ∀ d ∈ l, ∀ G' u w, Same G G' → rp G' u d.1 → rp G' w d.2 → ∀ s H C cl fp, Ev (BK X s H scope C cl fp) elt (((wipe σ [i, j]).set i (some u)).set j (some w)) G' (f d))
    (hz : l.length < sizeLine) (hN : X.N.Nodup) (ok : BlkOk X.N X.env.scope scope [(x, i), (y, j)]) (hij : i ≠ j := by decide) (hx : X.N[i]? = some x := by rfl) (hy : X.N[j]? = some y := by rfl) (lx : Loc (relS scope X.env.scope) x := by first | exact Or.inl rfl | exact Or.inr rfl) (ly : Loc (relS scope X.env.scope) y := by first | exact Or.inl rfl | exact Or.inr rfl)
    (fx : (scope.names.lookup x == some .cell) = true ∨ (relS scope X.env.scope).names.lookup x = some .local := by first | exact .inr rfl | exact .inl rfl) (fy : (scope.names.lookup y == some .cell) = true ∨ (relS scope X.env.scope).names.lookup y = some .local := by first | exact .inr rfl | exact .inl rfl)
    (hg : ∀ (s : Shared) (H : Hp) (C : Addr) (cl : List (Str × Addr)) (fp : List Addr), PG (BK X s H scope C cl fp) (.Tuple [.Name x px, .Name y py] kt pt) (gTup X.K 2 (gCons (gName i) (gCons (gName j) gNil))))
    (hc : X.calm = true := by rfl) (hs : ∀ y, foldedSetIterable iter X.env y = pure y := by intro _; rfl) :
    Ev X (.ListComp elt [⟨.Tuple [.Name x px, .Name y py] kt pt, iter, [], 0⟩] scope pos) σ G (l.map f) := by
  have h := Ev.lc (pos := pos) (own := [(x, i), (y, j)]) (f := f) (t := fun _ => true) hi (tgB2 (K := X.K)) hg (fun d hd G' σ' s1 _ s H C cl fp => ETs.nil) (fun d hd td G' σ' s1 ⟨u, w, r1, r2, e⟩ s H C cl fp => e ▸ he d hd G' u w s1 r1 r2 s H C cl fp) (fun _ _ _ b => wipe_b2 hij b) hz hN ok hc hs
  rwa [filter_yes] at h
end
end D1

namespace D1
open PySem L2 Rp

/-- a value tells its data -/
class Ri (α : Type) [Rp α] where
  inj : ∀ {H : Hp} {v : V} {a b : α}, rp H v a → rp H v b → a = b
instance : Ri Int := ⟨fun h1 h2 => by cases h1; cases h2; rfl⟩
instance : Ri Bool := ⟨fun h1 h2 => by cases h1; cases h2; rfl⟩
instance : Ri Str := ⟨fun h1 h2 => by cases h1; cases h2; rfl⟩
theorem ri_all {α : Type} [Rp α] [Ri α] {H : Hp} : ∀ {xs : List V} {as bs : List α}, Paired (rp H) xs as → Paired (rp H) xs bs → as = bs
  | _, _, _, .nil, .nil => rfl
  | _, _, _, .cons r t, .cons r' t' => by rw [Ri.inj r r', ri_all t t']
instance {α : Type} [Rp α] [Ri α] : Ri (List α) := ⟨fun ⟨p, xs, e, h, q⟩ ⟨p', xs', e', h', q'⟩ => by
  subst e; cases e'; rw [h] at h'; cases h'; exact ri_all q q'⟩
instance {α β : Type} [Rp α] [Rp β] [Ri α] [Ri β] : Ri (α × β) := ⟨fun ⟨p, x, y, e, h, q, r⟩ ⟨p', x', y', e', h', q', r'⟩ => by
  subst e; cases e'; rw [h] at h'; cases h'; exact Prod.ext (Ri.inj q q') (Ri.inj r r')⟩
instance {α β γ : Type} [Rp α] [Rp β] [Rp γ] [Ri α] [Ri β] [Ri γ] : Ri (T3 α β γ) := ⟨fun {H v a b} ⟨p, x, y, z, e, h, q, r, u⟩ ⟨p', x', y', z', e', h', q', r', u'⟩ => by
  subst e; cases e'; rw [h] at h'; cases h'
  obtain ⟨a1, a2, a3⟩ := a
  obtain ⟨b1, b2, b3⟩ := b
  have e1 : a1 = b1 := Ri.inj q q'
  have e2 : a2 = b2 := Ri.inj r r'
  have e3 : a3 = b3 := Ri.inj u u'
  rw [e1, e2, e3]⟩

/-- the data is an instance of the class at C -/
class In1 (α : Type) [Rp α] (C : outParam Addr) where
  ins : ∀ {H : Hp} {v : V} {a : α}, rp H v a → ∃ p dx fs, v = .ref p ∧ H p = some (.ins C dx fs)

/-- a class with its own == and no != -/
structure OEq (K : PySem.W.Frag) (C f : Addr) : Prop where
  eq : PySem.W.findIn K (.ref C) "__eq__" = some (some (.ref f))
  fn : PySem.W.isFn K (.ref f) = true
  cls : ∃ (nm q : Str) (N : Addr) (bs : List Value) (hdct : Bool) (sn : List Str) (sub : List Value) (ab : Bool) (col : Option Bool) (dd : Option Addr) (k0 k1 k2 k3 k5 : Option Value) (nid : String),
    K.lookup C = some (excClassObj nm q C N bs [.type "object"] hdct sn sub ab col dd k0 k1 k2 k3 k5 nid) ∧ PySem.W.nsOkIn K N = true ∧ PySem.W.nsIn K N "__eq__" = some (some (.ref f)) ∧ PySem.W.nsIn K N "__ne__" = some none
  fo : ∃ o, K.lookup f = some o ∧ o.cls = .type "function"
theorem ns_some {K : PySem.W.Frag} {h : Heap} {N : Addr} {m : Str → Option Value} {n : Str} {v : Value} (X : K.In h) (G : h.Ns N m) (e : PySem.W.nsIn K N n = some (some v)) : m n = some v := by
  obtain ⟨o, es, ep, ho, hd, _, hf⟩ := G
  unfold PySem.W.nsIn at e
  split at e
  case h_2 => cases e
  rename_i q
  have e2 := X _ _ q
  rw [ho] at e2
  cases e2
  cases hd
  split at e
  · rename_i en he
    cases e
    rw [← hf]
    unfold nsFind findBy
    rw [← Array.find?_toList, he]
    rfl
  · split at e <;> cases e
theorem OEq.raw {K : PySem.W.Frag} {C f x : Addr} {h : Heap} {ox : Obj} (E : OEq K C f) (X : K.In h) (hx : h.get? x = some ox) (hc : ox.cls = .ref C) : h.OwnEqNoNe x C f "object" [.type "object"] := by
  obtain ⟨nm, q, N, bs, hdct, sn, sub, ab, col, dd, k0, k1, k2, k3, k5, nid, lk, ok, e1, e2⟩ := E.cls
  obtain ⟨of, hf, hfc⟩ := E.fo
  have G : h.Ns N (h.nsMap N) := .of_isNs (PySem.W.isNs_of_in X ok)
  exact ⟨ox, of, nm, q, N, bs, hdct, sn, sub, ab, col, dd, k0, k1, k2, k3, k5, nid, h.nsMap N, _, hx, hc, X _ _ lk, G, ns_some X G e1, X _ _ hf, hfc, PySem.F.cmp_object.mro, PySem.F.cmp_object.eq.lookup, PySem.W.nsMap_none_of_in X ok e2⟩

/-- the own ==, somewhere below the running body -/
structure EqOk (X : Cx) (n : Nat) (C : Addr) {α : Type} [Rp α] [DecidableEq α] (pre : α → Prop) : Prop where
  run : ∀ (A : Around) (pins : List (Addr × Obj)) (s : Shared) (σ : St) (G H : Hp) (p q : Addr) (a b : α), Sub X n A → Inv X pins σ H s → Same G H → rp G (.ref p) a → rp G (.ref q) b → pre a → pre b →
    ∃ f, OEq X.K C f ∧ wpAny (model X.prog X.w) A (call (.ref f) [.ref p, .ref q]) (fun r s' => r = .bool (decide (a = b)) ∧ ∃ G' H', Inv X pins σ H' s' ∧ Gr G H G' H') X.xe s
section
variable {X : Cx} {n k : Nat} {C : Addr} {α : Type} [Rp α] [DecidableEq α] [In1 α C] {pre : α → Prop}
theorem EqOk.of {f : Addr} {fd : FuncData} {ps : List Str} (E : OEq X.K C f) (F : FnOk X.prog X.w X.K X.mg X.base C8.CX0 n f fd ps (P2 (fun a b => pre a ∧ pre b) (fun a b : α => decide (a = b)))) (hb : Binds X.K fd ps []) : EqOk X n C pre := by
  refine ⟨fun A pins s σ G H p q a b sb I sG r1 r2 p1 p2 => ⟨f, E, ?_⟩⟩
  have e0 : Env0 X.prog X.w X.K X.mg X.base A X.stack s H := by
    have e := I.env0
    exact ⟨by rw [sb.fr]; exact e.frames, e.mod, e.bs, e.bsz, e.funs, e.frf, e.hok, e.bare⟩
  have hsp : P2 (fun a b => pre a ∧ pre b) (fun a b : α => decide (a = b)) [.ref p, .ref q] H (fun v H' => v = .bl (decide (a = b)) ∧ ∃ G', Gr G H G' H') (fun _ _ _ => False) :=
    ⟨G, _, _, a, b, rfl, sG, r1, r2, ⟨p1, p2⟩, fun G' H' w g r => ⟨r, G', g⟩⟩
  have hl := F.len _ _ _ _ hsp
  have rv : Vals [V.ref p, V.ref q] [Value.ref p, Value.ref q] := .cons rfl (.cons rfl .nil)
  have bt := hb s [.ref p, .ref q] I.kIn (by simpa using hl)
  rw [List.append_nil] at bt
  refine wpAny_call (codeAny_mono (F.run A X.stack s H ⟨[.ref p, .ref q], []⟩ [.ref p, .ref q] [.ref p, .ref q] _ _ sb.room e0 bt rv hsp) fun r s' hq => ?_)
  match r, hq with
  | .error _, hq => exact hq.elim
  | .ok .next, hq => exact hq.elim
  | .ok .brk, hq => exact hq.elim
  | .ok .cont, hq => exact hq.elim
  | .ok (.ret u), hq =>
    obtain ⟨z, H', I', rz, ez, G', g⟩ := I.after hq
    subst ez
    cases rz
    exact ⟨rfl, G', H', I', g⟩
theorem inst_of {pins : List (Addr × Obj)} {σ : St} {H : Hp} {s : Shared} {p dx : Addr} {fs : List (Str × V)} (I : Inv X pins σ H s) (h : H p = some (.ins C dx fs)) : s.heap.get? p = some (PySem.W.instObj C dx) := by
  have x := I.hok p _ h
  obtain ⟨_, _, _, e, _⟩ := x
  exact e
theorem EqOk.rc (F : EqOk X n C pre) {A : Around} {pins : List (Addr × Obj)} {s : Shared} {σ : St} {G H : Hp} {u v : V} {x y : Value} {a b : α} (sb : Sub X n A) (I : Inv X pins σ H s) (sG : Same G H) (r1 : rp G u a) (r2 : rp G v b) (rx : RelV u x) (ry : RelV v y) (p1 : pre a) (p2 : pre b) :
    wpAny (model X.prog X.w) A (richCompare .Eq x y) (fun r s' => r = .bool (decide (a = b)) ∧ ∃ G' H', Inv X pins σ H' s' ∧ Gr G H G' H') X.xe s := by
  obtain ⟨p, dp, fp, rfl, hp⟩ := In1.ins r1
  obtain ⟨q, dq, fq, rfl, hq⟩ := In1.ins r2
  cases rx
  cases ry
  obtain ⟨f, E, hc⟩ := F.run A pins s σ G H p q a b sb I sG r1 r2 p1 p2
  obtain ⟨mA, J, _⟩ := ins_get I.hok (sG _ _ hp)
  obtain ⟨mB, J', _⟩ := ins_get I.hok (sG _ _ hq)
  obtain ⟨od, J, _⟩ := J.look
  obtain ⟨od', J', _⟩ := J'.look
  obtain ⟨m, hF⟩ := I.fr
  refine PySem.W.cmp_K (op := .Eq) (tb := .ref C) sb.room.units0 hF I.ok.mod.kin J J'.type (by simp [PySem.W.notFirst]) E.eq E.fn (wpAny_mono hc (fun r s' h => ?_) fun _ _ e => e)
  obtain ⟨rfl, h⟩ := h
  exact ⟨rfl, h⟩
theorem EqOk.ne (F : EqOk X n C pre) {A : Around} {pins : List (Addr × Obj)} {s : Shared} {σ : St} {G H : Hp} {u v : V} {x y : Value} {a b : α} (sb : Sub X (n + 1) A) (I : Inv X pins σ H s) (sG : Same G H) (r1 : rp G u a) (r2 : rp G v b) (rx : RelV u x) (ry : RelV v y) (p1 : pre a) (p2 : pre b) :
    wpAny (model X.prog X.w) A (compareOp .NotEq x y) (fun r s' => r = .bool (!decide (a = b)) ∧ ∃ G' H', Inv X pins σ H' s' ∧ Gr G H G' H') X.xe s := by
  obtain ⟨p, dp, fp, rfl, hp⟩ := In1.ins r1
  obtain ⟨q, dq, fq, rfl, hq⟩ := In1.ins r2
  cases rx
  cases ry
  obtain ⟨f, E, hc⟩ := F.run A.in1 pins s σ G H p q a b sb.in1 I sG r1 r2 p1 p2
  have g1 := inst_of I (sG _ _ hp)
  have g2 := inst_of I (sG _ _ hq)
  have hu : A.units + 1 < cLine := by have := sb.room.un; omega
  have raw := E.raw I.kIn g1 rfl
  obtain ⟨hh, gg, d, t, os⟩ := s
  refine compareOp_ne_ownEq PySem.F.cmp_object raw g2 rfl hu (wpAny_mono hc (fun r s' h => ?_) fun _ _ e => e)
  obtain ⟨rfl, h⟩ := h
  exact ⟨_, rfl, rfl, h⟩
theorem EqOk.eqB [Ri α] (F : EqOk X n C pre) {A : Around} {pins : List (Addr × Obj)} {s : Shared} {σ : St} {G H : Hp} {u v : V} {x y : Value} {a b : α} (sb : Sub X n A) (I : Inv X pins σ H s) (sG : Same G H) (r1 : rp G u a) (r2 : rp G v b) (rx : RelV u x) (ry : RelV v y) (p1 : pre a) (p2 : pre b) :
    wpAny (model X.prog X.w) A (eqBool x y) (fun r s' => r = decide (a = b) ∧ ∃ G' H', Inv X pins σ H' s' ∧ Gr G H G' H') X.xe s := by
  have rc := F.rc sb I sG r1 r2 rx ry p1 p2
  obtain ⟨p, dp, fp, rfl, hp⟩ := In1.ins r1
  obtain ⟨q, dq, fq, rfl, hq⟩ := In1.ins r2
  cases rx
  cases ry
  by_cases hpq : p = q
  · subst hpq
    have e : a = b := Ri.inj r1 r2
    refine SeqAt.EqAt.same (A := A) (s := s) (.ref p) X.prog X.w X.xe _ ⟨by simp [e], G, H, I, GrM.refl sG⟩
  · exact GQ.eqBool_refG hpq (wpAny_mono rc (fun r s' h => ⟨_, h.1, rfl, h.2⟩) fun _ _ e => e)
end
section
variable {prog : Program} {w : World} {A : Around} {E : Value → Shared → Prop}
open MeetsSeq MeetsSeq2 MeetsSeq3 SeqRoads2
open AutoSeq1 (wpAny_loadPart')
/-- x in a list, where == may make objects: J is kept -/
def HasI (prog : Program) (w : World) (A : Around) (E : Value → Shared → Prop) (l : Addr) (x : Value) (N : Nat) (e : Nat → Bool) (J : Shared → Prop) : Prop :=
  ∀ s, J s → ∃ (items : Array Value) (ep : Nat), s.heap.get? l = some { cls := .type "list", data := .seq items ep } ∧ items.size = N ∧ ∀ i (_ : i < items.size), wpAny (model prog w) A.in1 (eqBool items[i] x) (fun r s' => r = e i ∧ J s') E s
theorem has_loop {l : Addr} {N : Nat} {x : Value} (J : Shared → Prop) (e : Nat → Bool) {R : Result → Shared → Prop} (hl : HasI prog w A (fun er s' => R (.error er) s') l x N e J) (k : Nat) :
    ∀ (i : Nat) (s : Shared), i + k = N → J s → (∀ s', J s' → R (.ok (.ret (.bool ((List.range' i k).any e)))) s') →
      wpAny (model prog w) A.in1 (Builtin.«list.__contains__.loop» ⟨[.ref l, x, rawInt i], []⟩) (GQ.FinOf prog w A R) (fun er s' => R (.error er) s') s := by
  induction k with
  | zero =>
    intro i s hi hJ hR
    have fin := hR s hJ
    obtain ⟨items, ep, gl, hN, _⟩ := hl s hJ
    obtain ⟨hp, g, d, tk, os⟩ := s
    wp_walk using wpAny_loadPart' gl
    have no : items[((i : Nat) : Int).toNat]? = none := by simp; omega
    rw [no]
    wp_walk
    exact fin
  | succ k ih =>
    intro i s hi hJ hR
    obtain ⟨items, ep, gl, hN, eb⟩ := hl s hJ
    have lt : i < items.size := by omega
    have eb := eb i lt
    obtain ⟨hp, g, d, tk, os⟩ := s
    wp_walk using wpAny_loadPart' gl
    have yes : items[((i : Nat) : Int).toNat]? = some items[i] := by simp [lt]
    rw [yes]
    refine wpAny_bind (wpAny_mono eb (fun r s' h => ?_) fun _ _ z => z)
    obtain ⟨hr, hJ'⟩ := h
    have e1 : List.range' i (k + 1) = i :: List.range' (i + 1) k := List.range'_succ ..
    rw [e1] at hR
    cases hb : e i with
    | true =>
      have fin := hR s' hJ'
      rw [List.any_cons, hb] at fin
      rw [hb] at hr
      subst hr
      obtain ⟨hp2, g2, d2, tk2, os2⟩ := s'
      wp_walk
      exact fin
    | false =>
      rw [hb] at hr
      subst hr
      have rec_ := ih (i + 1) s' (by omega) hJ' (fun s2 h2 => by have := hR s2 h2; rw [List.any_cons, hb] at this; exact this)
      have hc : ((i : Int) + 1) = ((i + 1 : Nat) : Int) := by push_cast; rfl
      obtain ⟨hp2, g2, d2, tk2, os2⟩ := s'
      wp_walk
      rw [hc]
      exact ⟨plainId_quiet plain_contains_loop _, codeAny_builtin entry_contains_loop (by
        rw [Around.under_plainId plain_contains_loop _]
        exact rec_)⟩
theorem has_own {l : Addr} {N : Nat} {x : Value} {s : Shared} {Q : Bool → Shared → Prop} (J : Shared → Prop) (e : Nat → Bool) (hl : HasI prog w A E l x N e J) (hJ : J s) (k : ∀ s', J s' → Q ((List.range' 0 N).any e) s') :
    wpAny (model prog w) A (contains (.ref l) x) Q E s := by
  obtain ⟨items, ep, gl, hN, _⟩ := hl s hJ
  have hT : s.TypeIs (.ref l) "list" := ⟨_, gl, rfl⟩
  refine wpAny_contains_slot hT F.slot_list_contains (GQ.call_here F.slot_list_contains hT F.entry_list_contains (F.args_list_contains_2 _ _) ?_)
  have lp := has_loop (prog := prog) (w := w) (A := A) (R := wants (fun v s' => wpAny (model prog w) A (truthy v) Q E s') E) J e hl N 0 s (by omega) hJ (fun s' h => wpAny_truthy_bool (k s' h))
  obtain ⟨hp, g, d, tk, os⟩ := s
  wp_walk using wpAny_loadPart' gl
  exact ⟨plainId_quiet plain_contains_loop _, codeAny_builtin entry_contains_loop (by
    rw [Around.under_plainId plain_contains_loop _]
    exact lp)⟩
end
section
variable {X : Cx} {n k : Nat} {C : Addr} {α : Type} [Rp α] [DecidableEq α] [In1 α C] {pre : α → Prop} {σ : St} {G : Hp} {a b : Expr} {pos : Pos}
theorem pl_at {F : V → α → Prop} {xs : List V} {l : List α} {i : Nat} (pr : Paired F xs l) (h : i < xs.length) (h2 : i < l.length) : F xs[i] l[i] := by
  obtain ⟨y, e1, e2⟩ := paired_at pr (List.getElem?_eq_getElem h)
  rw [List.getElem?_eq_getElem h2] at e1
  cases e1
  exact e2
theorem range_any {l : List α} {x : α} : (List.range' 0 l.length).any (fun i => match l[i]? with | some y => decide (y = x) | none => false) = decide (x ∈ l) := by
  rw [Bool.eq_iff_iff, List.any_eq_true, decide_eq_true_eq]
  constructor
  · rintro ⟨i, _, h⟩
    cases e : l[i]? with
    | none => rw [e] at h; cases h
    | some y =>
      rw [e] at h
      have h' : y = x := by simpa using h
      exact h' ▸ List.mem_of_getElem? e
  · intro h
    obtain ⟨i, hi, e⟩ := List.getElem_of_mem h
    exact ⟨i, by simp [List.mem_range'_1, hi], by rw [List.getElem?_eq_getElem hi, e]; simp⟩
theorem EqOk.has [Ri α] (F : EqOk X n C pre) {pins : List (Addr × Obj)} {s : Shared} {H : Hp} {u v : V} {x y : Value} {d : α} {l : List α} (hr : Room (n + 1) X.A) (I : Inv X pins σ H s) (sG : Same G H) (r1 : rp G u d) (r2 : rp G v l) (rx : RelV u x) (ry : RelV v y) (p1 : pre d) (p2 : ∀ z ∈ l, pre z) :
    wpAny (model X.prog X.w) X.A (contains y x) (fun r s' => r = decide (d ∈ l) ∧ ∃ G' H', Inv X pins σ H' s' ∧ Gr G H G' H') X.xe s := by
  obtain ⟨q, xs, rfl, hq, pr⟩ := r2
  cases ry
  refine has_own (N := l.length) (fun s' => ∃ G' H', Inv X pins σ H' s' ∧ Gr G H G' H') (fun i => match l[i]? with | some z => decide (z = d) | none => false) (fun s' ⟨G', H', I', g⟩ => ?_) ⟨G, H, I, GrM.refl sG⟩ fun s' h => ⟨range_any, h⟩
  obtain ⟨z, its, m, rv, e⟩ := I'.hok q _ (g.s _ _ (g.g _ _ hq))
  refine ⟨its.toArray, m, e, by rw [List.size_toArray, ← rv.length, pr.length], fun i hi => ?_⟩
  have h1 : i < its.length := by simpa using hi
  have h2 : i < xs.length := by rw [rv.length]; exact h1
  have h3 : i < l.length := by rw [← pr.length]; exact h2
  obtain ⟨u2, hu2, ru2⟩ := rv.get (List.getElem?_eq_getElem h2)
  rw [List.getElem?_eq_getElem h1] at hu2
  have e1 : its.toArray[i] = u2 := by simpa using Option.some.inj hu2
  rw [e1]
  have e4 : (match l[i]? with | some z => decide (z = d) | none => false) = decide (l[i] = d) := by rw [List.getElem?_eq_getElem h3]
  show wpAny _ _ _ (fun r s' => r = (match l[i]? with | some z => decide (z = d) | none => false) ∧ _) _ _
  rw [e4]
  refine wpAny_mono (F.eqB ⟨hr.in1, rfl⟩ I' g.s (rup g.g (pl_at pr h2 h3)) (rup g.g r1) ru2 rx (p2 _ (List.getElem_mem h3)) p1) (fun r s2 h => ?_) fun _ _ z => z
  obtain ⟨hr', G2, H2, I2, g2⟩ := h
  exact ⟨hr', G2, H2, I2, g.trans g2⟩
/-- what the own == and the list's in ask -/
def rOwn (X : Cx) (f : Value → Value → Sem Value) (P : V → V → Bool → Hp → Hp → Prop) : R2 := fun x y H Q => ∃ G b, Same G H ∧ P x y b G H ∧ ∀ G' H', Gr G H G' H' → Q (.bl b) H'
theorem ep_of {pins : List (Addr × Obj)} {H : Hp} {Q : VK} {t : Sem Value} {s : Shared} {z : Bool} {A : Around} (h : wpAny (model X.prog X.w) A t (fun r s' => r = .bool z ∧ ∃ G' H', Inv X pins σ H' s' ∧ Gr G H G' H') X.xe s) (k : ∀ G' H', Gr G H G' H' → Q (.bl z) H') :
    wpAny (model X.prog X.w) A t (EP X pins σ Q) X.xe s := wpAny_mono h (fun r s' ⟨e, G', H', I', g⟩ => ⟨.bl z, H', I', e, k G' H' g⟩) fun _ _ z => z
theorem Ev.eqO (F : EqOk X n C pre) (hr : Room n X.A) {x y : α} (ha : Ev X a σ G x) (hb : Ev X b σ G y) (p1 : pre x) (p2 : pre y) : Ev X (.Compare a [.Eq] [b] pos) σ G (decide (x = y)) :=
  Ev.cmp (r := fun u v H Q => ∃ G x y, Same G H ∧ rp G u x ∧ rp G v y ∧ pre x ∧ pre y ∧ ∀ G' H', Gr G H G' H' → Q (.bl (decide (x = y))) H')
    (fun pins s σ H u v uu vv Q I ru rv ⟨G, x, y, s1, r1, r2, p1, p2, k⟩ => ep_of (F.rc ⟨hr, rfl⟩ I s1 r1 r2 ru rv p1 p2) k) (nomark _)
    (fun G H u v Q s r1 r2 k => ⟨G, x, y, s, r1, r2, p1, p2, fun G' H' g => k G' H' _ g rfl⟩) ha hb
theorem ET.eqO (F : EqOk X n C pre) (hr : Room n X.A) {x y : α} (ha : Ev X a σ G x) (hb : Ev X b σ G y) (p1 : pre x) (p2 : pre y) : ET X (.Compare a [.Eq] [b] pos) σ G (decide (x = y)) :=
  ET.cmp (r := fun u v H Q => ∃ G x y, Same G H ∧ rp G u x ∧ rp G v y ∧ pre x ∧ pre y ∧ ∀ G' H', Gr G H G' H' → Q (.bl (decide (x = y))) H')
    (fun pins s σ H u v uu vv Q I ru rv ⟨G, x, y, s1, r1, r2, p1, p2, k⟩ => ep_of (F.rc ⟨hr, rfl⟩ I s1 r1 r2 ru rv p1 p2) k) (nomark _)
    (fun G H u v Q s r1 r2 k => ⟨G, x, y, s, r1, r2, p1, p2, fun G' H' g => k G' H' _ g rfl⟩) ha hb
theorem ET.neO (F : EqOk X n C pre) (hr : Room (n + 1) X.A) {x y : α} (ha : Ev X a σ G x) (hb : Ev X b σ G y) (p1 : pre x) (p2 : pre y) : ET X (.Compare a [.NotEq] [b] pos) σ G (!decide (x = y)) :=
  ET.cmp (r := fun u v H Q => ∃ G x y, Same G H ∧ rp G u x ∧ rp G v y ∧ pre x ∧ pre y ∧ ∀ G' H', Gr G H G' H' → Q (.bl (!decide (x = y))) H')
    (fun pins s σ H u v uu vv Q I ru rv ⟨G, x, y, s1, r1, r2, p1, p2, k⟩ => ep_of (F.ne ⟨hr, rfl⟩ I s1 r1 r2 ru rv p1 p2) k) (nomark _)
    (fun G H u v Q s r1 r2 k => ⟨G, x, y, s, r1, r2, p1, p2, fun G' H' g => k G' H' _ g rfl⟩) ha hb
theorem ET.inO [Ri α] (F : EqOk X n C pre) (hr : Room (n + 1) X.A) {x : α} {l : List α} (ha : Ev X a σ G x) (hb : Ev X b σ G l) (p1 : pre x) (p2 : ∀ z ∈ l, pre z) (hm : behindInMarks .In b = false := by rfl) : ET X (.Compare a [.In] [b] pos) σ G (decide (x ∈ l)) :=
  ET.cmp (r := fun u v H Q => ∃ G x l, Same G H ∧ rp G u x ∧ rp G v l ∧ pre x ∧ (∀ z ∈ l, pre z) ∧ ∀ G' H', Gr G H G' H' → Q (.bl (decide (x ∈ l))) H')
    (fun pins s σ H u v uu vv Q I ru rv ⟨G, x, l, s1, r1, r2, p1, p2, k⟩ => by
      show wpAny _ X.A (do return Value.bool (← contains vv uu)) _ _ s
      refine wpAny_bind (wpAny_mono (F.has hr I s1 r1 r2 ru rv p1 p2) (fun r s' h => ?_) fun _ _ z => z)
      obtain ⟨hr', G', H', I', g⟩ := h
      subst hr'
      exact wpAny_pure ⟨.bl _, H', I', rfl, k G' H' g⟩) hm
    (fun G H u v Q s r1 r2 k => ⟨G, x, l, s, r1, r2, p1, p2, fun G' H' g => k G' H' _ g rfl⟩) ha hb
end
end D1

namespace D1
open PySem L2 Rp
theorem GrM.hh {G H G' H' : Hp} (r : GrM M0 G H G' H') : Same H H' := Gr.hh r
theorem GrM.any {M : Addr → Prop} {G H G' H' : Hp} (r : GrM M0 G H G' H') : GrM M G H G' H' := Gr.any r

/-! ### instances: fields, methods, making -/
section
variable {α β γ δ : Type} [Rp α] [Rp β] [Rp γ] [Rp δ] {X : Cx} {e o a b c tg : Expr} {σ : St} {G G1 H1 : Hp} {pos p apos : Pos} {rest th : List Stmt} {N : St → Hp → Prop} {R : V → Hp → Prop} {k j : Nat} {C : Addr} {m x : Str}
/-- the field f of such data holds z -/
def FldOf (K : PySem.W.Frag) (f : Str) (d : α) (z : β) : Prop := ∀ H v, rp H v d → ∃ p C dx fs u, v = .ref p ∧ H p = some (.ins C dx fs) ∧ Cls K C ∧ NoAttr K C f ∧ fs.lookup f = some u ∧ rp H u z
theorem Ev.fld {f : Str} {d : α} {z : β} (hf : FldOf X.K f d z) (h : Ev X e σ G d) (hb : attributeBase e f X.env (eval e X.env) = eval e X.env := by rfl) : Ev X (.Attribute e f pos) σ G z := fun G1 H1 Q s1 s2 k =>
  WE.of (pe_fld pe_we hb) (h G1 H1 _ s1 s2 fun G2 H2 v g r => by
    obtain ⟨p, C, dx, fs, u, rfl, h1, cl, na, lk, ru⟩ := hf _ _ r
    exact ⟨p, C, dx, fs, u, rfl, g.s _ _ h1, cl, na, lk, k _ _ _ g ru⟩)
/-- the data is an instance that has no field m -/
def MthOf (C : Addr) (m : Str) (d : α) : Prop := ∀ H v, rp H v d → ∃ p dx fs, v = .ref p ∧ H p = some (.ins C dx fs) ∧ fs.lookup m = none
theorem Ev.meth0 {pl : Sem Bool} {pre : α → Prop} {f : α → β} {d : α} (c : C8.Met X.prog X.w X.K X.mg X.base k C m (P1 pre f) []) (hr : Room j X.A) (hm : MthOf C m d) (h : Ev X o σ G d) (hp : pre d) (hk : k ≤ j := by decide)
    (ht : eval (.Call (.Attribute o m apos) [] [] pos) X.env = (do
      let ov ← eval o X.env
      standAt apos.atName
      let (f, first) ← holding [ov] (getMethod ov m pl)
      callWith pos f first (backTo pos (starEach [] X.env)) (backToKw pos (keywordEach [] X.env))) := by rfl) : Ev X (.Call (.Attribute o m apos) [] [] pos) σ G (f d) := fun G1 H1 Q s1 s2 kk =>
  WE.of (C8.pe_mt0 (pl := pl) c hr hk pe_we ht) (h G1 H1 _ s1 s2 fun G2 H2 v g r => by
    obtain ⟨p, dx, fs, rfl, h1, lk⟩ := hm _ _ r
    exact ⟨p, dx, fs, rfl, g.s _ _ h1, lk, G2, _, d, rfl, g.s, r, hp, fun G3 H3 w g2 r2 => kk _ _ _ (g.trans g2) r2⟩)
theorem Ev.meth1 {pl : Sem Bool} {pre : α → β → Prop} {f : α → β → γ} {d : α} {z : β} (c : C8.Met X.prog X.w X.K X.mg X.base k C m (P2 pre f) []) (hr : Room j X.A) (hm : MthOf C m d) (h : Ev X o σ G d) (h2 : Ev X e σ G z) (hp : pre d z) (hk : k ≤ j := by decide)
    (hst : starEach [e] X.env = (false, eval e X.env) :: starEach [] X.env := by rfl) (hpl : (backTo pos (starEach [] X.env)).any (·.1) = false := by rfl)
    (ht : eval (.Call (.Attribute o m apos) [e] [] pos) X.env = (do
      let ov ← eval o X.env
      standAt apos.atName
      let (f, first) ← holding [ov] (getMethod ov m pl)
      callWith pos f first (backTo pos (starEach [e] X.env)) (backToKw pos (keywordEach [] X.env))) := by rfl) : Ev X (.Call (.Attribute o m apos) [e] [] pos) σ G (f d z) := fun G1 H1 Q s1 s2 kk =>
  WE.of (C8.pe_mt (pl := pl) c hr hk pe_we (pa_cons pe_we pa_nil hst) hst hpl ht) (h G1 H1 _ s1 s2 fun G2 H2 v g r => by
    obtain ⟨p, dx, fs, rfl, h1, lk⟩ := hm _ _ r
    exact ⟨p, dx, fs, rfl, g.s _ _ h1, lk, h2 G2 H2 _ (s1.trans g.g) g.s fun G3 H3 u g2 r2 => ⟨G3, _, _, d, z, rfl, g2.s, rup g2.g r, r2, hp, fun G4 H4 w g3 r3 => kk _ _ _ ((g.trans g2).trans g3) r3⟩⟩)
/-- what an __init__ of two arguments promises: the new object is f a b -/
def PI2 (C : Addr) (pre : α → β → Prop) (f : α → β → γ) : Sp := fun vs H Q _ => ∃ G x dx u v a b, vs = [.ref x, u, v] ∧ H x = some (.ins C dx []) ∧ G x = none ∧ Same G H ∧ rp G u a ∧ rp G v b ∧ pre a b ∧
  ∀ G' H' o, GrM (fun q => q = x) G H G' H' → H' x = some o → rp (upd G' x o) (.ref x) (f a b) → Q .non H'
theorem made_gr {G H : Hp} {x dx : Addr} {C : Addr} (s : Same G H) (hx : H x = none) (hdx : H dx = none) : Same G (upd (upd H dx (.own x)) x (.ins C dx [])) := fun b o e => by
  have e1 := s b o e
  rw [upd_ne (ne_of_none e1 hx), upd_ne (ne_of_none e1 hdx)]
  exact e1
theorem Ev.make2 {pre : α → β → Prop} {f : α → β → γ} {d : α} {z : β} (c : C8.Mak X.prog X.w X.K X.mg X.base k x C (PI2 C pre f) []) (hr : Room j X.A) (ha : Ev X a σ G d) (hb : Ev X b σ G z) (hp : pre d z) (hk : k + 1 ≤ j := by decide) (hg : Gl X x := by rfl)
    (hdb : (x == ("__debug__" : Str)) = false := by decide) (he : starEach [a, b] X.env = (false, eval a X.env) :: starEach [b] X.env := by rfl) (he2 : starEach [b] X.env = (false, eval b X.env) :: starEach [] X.env := by rfl) (hpl : (backTo pos (starEach [b] X.env)).any (·.1) = false := by rfl) :
    Ev X (.Call (.Name x p) [a, b] [] pos) σ G (f d z) := fun G1 H1 Q s1 s2 kk =>
  WE.of (C8.pe_mk c hr hk hg (pa_cons pe_we (pa_cons pe_we pa_nil he2) he) hdb he hpl) (ha G1 H1 _ s1 s2 fun G2 H2 v g r => hb G2 H2 _ (s1.trans g.g) g.s fun G3 H3 u g2 r2 q dq hq hdq ne => by
    have sm := made_gr (C := C) g2.s hq hdq
    have gq : G3 q = none := g2.s.free hq
    refine ⟨G3, q, dq, v, u, d, z, rfl, upd_same, gq, sm, rup g2.g r, r2, hp, fun G4 H4 ob g3 ho r3 => ⟨rfl, ?_⟩⟩
    have g4q : G4 q = none := g3.f q gq (by rw [upd_same]; exact fun z => nomatch z)
    refine kk (upd G4 q ob) H4 _ ((g.trans g2).trans ?_) r3
    refine ⟨g3.g.trans (same_new g4q), fun b' o' _ e => ?_, fun b' o' e => ?_, fun b' e n => ?_, fun b' n => ?_⟩
    · have ne1 := ne_of_none e hq
      exact g3.h b' o' ne1 (by rw [upd_ne ne1, upd_ne (ne_of_none e hdq)]; exact e)
    · by_cases hb' : b' = q
      · subst hb'; rw [upd_same] at e; cases e; exact ho
      · rw [upd_ne hb'] at e; exact g3.s b' o' e
    · rw [upd_ne (fun z => n (by rw [z]; exact hq))]
      exact g3.f b' e (upd_some (upd_some n))
    · exact g3.d b' (upd_some (upd_some n)))

/-! ### blocks by their weakest preconditions -/
variable {D : Ends}
theorem ws_nil {H : Hp} (h : D.nx σ H) : WS X [] D σ H := WS.of pss_nil h
theorem ws_expr {d : α} (s1 : Same G G1) (s2 : Same G1 H1) (h : Ev X e σ G d) (k : ∀ G2 H2, Gr G1 H1 G2 H2 → WS X rest D σ H2) (hs : swapsWith e none pos.line X.env = pure false := by rfl) : WS X (.Expr e pos :: rest) D σ H1 :=
  WS.cons (ps_expr pe_we hs) (h G1 H1 _ s1 s2 fun G2 H2 v g r => k G2 H2 g)
theorem ws_asg (i : Nat) {y : Str} {px : Pos} {d : α} (s1 : Same G G1) (s2 : Same G1 H1) (h : Ev X e σ G d) (k : ∀ G2 H2 v, Gr G1 H1 G2 H2 → rp G2 v d → WS X rest D (σ.set i (some v)) H2) (hN : X.N.Nodup) (hi : X.N[i]? = some y := by rfl) (hx : Loc X.env.scope y := by first | exact Or.inl rfl | exact Or.inr rfl)
    (hs : swapsWith e (some (.Name y px)) pos.line X.env = pure false := by rfl) (hf : X.fn y = true ∨ X.env.scope.names.lookup y = some .local := by first | exact .inl rfl | exact .inr rfl) : WS X (.Assign [.Name y px] e pos :: rest) D σ H1 :=
  WS.cons (ps_set hN hi hx pe_we hs hf) (h G1 H1 _ s1 s2 fun G2 H2 v g r => k G2 H2 v g r)
/-- .. the value by its own precondition -/
theorem ws_asgW (i : Nat) {y : Str} {px : Pos} {H : Hp} (h : WE X e σ H fun v H2 => WS X rest D (σ.set i (some v)) H2) (hN : X.N.Nodup) (hi : X.N[i]? = some y := by rfl) (hx : Loc X.env.scope y := by first | exact Or.inl rfl | exact Or.inr rfl)
    (hs : swapsWith e (some (.Name y px)) pos.line X.env = pure false := by rfl) (hf : X.fn y = true ∨ X.env.scope.names.lookup y = some .local := by first | exact .inl rfl | exact .inr rfl) : WS X (.Assign [.Name y px] e pos :: rest) D σ H :=
  WS.cons (ps_set hN hi hx pe_we hs hf) h
theorem ws_exprW {H : Hp} (h : WE X e σ H fun v H2 => WS X rest D σ H2) (hs : swapsWith e none pos.line X.env = pure false := by rfl) : WS X (.Expr e pos :: rest) D σ H := WS.cons (ps_expr pe_we hs) h
theorem ws_retW {H : Hp} (h : WE X e σ H D.rt) : WS X (.Return (some e) pos :: rest) D σ H := WS.cons (ps_ret pe_we) h
theorem ws_ret {d : α} (s1 : Same G G1) (s2 : Same G1 H1) (h : Ev X e σ G d) (k : ∀ G2 H2 v, Gr G1 H1 G2 H2 → rp G2 v d → D.rt v H2) : WS X (.Return (some e) pos :: rest) D σ H1 := ws_retW (h G1 H1 _ s1 s2 k)
theorem ws_if {z : Bool} {el : List Stmt} (s1 : Same G G1) (s2 : Same G1 H1) (hc : ET X c σ G z) (h1 : z = true → ∀ G2 H2, Gr G1 H1 G2 H2 → WS X th { D with nx := fun σ' H' => WS X rest D σ' H' } σ H2) (h2 : z = false → ∀ G2 H2, Gr G1 H1 G2 H2 → WS X el { D with nx := fun σ' H' => WS X rest D σ' H' } σ H2) : WS X (.If c th el pos :: rest) D σ H1 :=
  WS.cons (ps_if pt_wt pss_ws pss_ws) (hc G1 H1 _ s1 s2 fun G2 H2 g => by
    cases z with
    | true => exact h1 rfl G2 H2 g
    | false => exact h2 rfl G2 H2 g)
theorem ws_ifF (s1 : Same G G1) (s2 : Same G1 H1) (hc : ET X c σ G false) (h2 : ∀ G2 H2, Gr G1 H1 G2 H2 → WS X rest D σ H2) : WS X (.If c th [] pos :: rest) D σ H1 :=
  ws_if s1 s2 hc (fun h => nomatch h) fun _ G2 H2 g => ws_nil (h2 G2 H2 g)
/-- .. the test by its own precondition -/
theorem ws_ifW {H : Hp} {el : List Stmt} (h : WT X c σ H fun z H2 => if z = true then WS X th { D with nx := fun σ' H' => WS X rest D σ' H' } σ H2 else WS X el { D with nx := fun σ' H' => WS X rest D σ' H' } σ H2) : WS X (.If c th el pos :: rest) D σ H :=
  WS.cons (ps_if pt_wt pss_ws pss_ws) h
/-- self.f = e, self in slot i, a new object that is not standing yet -/
theorem ws_fld (i : Nat) {f y : Str} {q dx : Addr} {fs : List (Str × V)} {px p2 : Pos} {d : α} (s1 : Same G G1) (s2 : Same G1 H1) (hσ : σ[i]? = some (some (.ref q))) (hq : H1 q = some (.ins C dx fs)) (gq : G1 q = none) (cl : Cls X.K C) (na : NoAttr X.K C f) (hl : fs.length < 1000) (h : Ev X e σ G d)
    (k : ∀ G2 H2 v, GrM (fun b => b = q) G1 H1 G2 H2 → H2 q = some (.ins C dx (putF f v fs)) → rp G2 v d → WS X rest D σ H2) (hN : X.N[i]? = some y := by rfl) (hv : Vis X.env.scope y := by first | exact Or.inl rfl | exact Or.inr (Or.inl rfl) | exact Or.inr (Or.inr rfl)) (hd : (y == ("__debug__" : Str)) = false := by decide)
    (hcd : (y == ("__classdict__" : Str)) = false := by decide) (hs : swapsWith e (some (.Attribute (.Name y px) f p2)) pos.line X.env = pure false := by rfl) : WS X (.Assign [.Attribute (.Name y px) f p2] e pos :: rest) D σ H1 :=
  WS.cons (ps_fld (pv i hN hv hd hcd) pe_we hs) (h G1 H1 _ s1 s2 fun G2 H2 v g r => by
    have hq2 := g.hh _ _ hq
    have gq2 := g.f q gq (by rw [hq]; exact fun z => nomatch z)
    exact ⟨_, hσ, q, C, dx, fs, rfl, hq2, cl, na, hl, k _ _ _ (g.any.trans (GrM.put g.s gq2 rfl)) upd_same r⟩)
/-- a list comprehension stored into a field, a name: as any value -/
theorem we_call1 {sp : Sp} {H : Hp} {Q : VK} (c : C8.Cal X.prog X.w X.K X.mg X.base k x sp []) (hr : Room j X.A) (h : WE X a σ H fun v H1 => sp [v] H1 Q C8.E0) (hk : k ≤ j := by decide) (hg : Gl X x := by rfl)
    (hdb : (x == ("__debug__" : Str)) = false := by decide) (hs : starEach [a] X.env = (false, eval a X.env) :: starEach [] X.env := by rfl) (hpl : (backTo pos (starEach [] X.env)).any (·.1) = false := by rfl) : WE X (.Call (.Name x p) [a] [] pos) σ H Q :=
  WE.of (C8.pe_c c hr hk hg (pa_cons pe_we pa_nil hs) hdb hs hpl) h
theorem we_call2 {sp : Sp} {H : Hp} {Q : VK} (cc : C8.Cal X.prog X.w X.K X.mg X.base k x sp []) (hr : Room j X.A) (h : WE X a σ H fun v H1 => WE X b σ H1 fun u H2 => sp [v, u] H2 Q C8.E0) (hk : k ≤ j := by decide) (hg : Gl X x := by rfl)
    (hdb : (x == ("__debug__" : Str)) = false := by decide) (hs : starEach [a, b] X.env = (false, eval a X.env) :: starEach [b] X.env := by rfl) (hs2 : starEach [b] X.env = (false, eval b X.env) :: starEach [] X.env := by rfl) (hpl : (backTo pos (starEach [b] X.env)).any (·.1) = false := by rfl) : WE X (.Call (.Name x p) [a, b] [] pos) σ H Q :=
  WE.of (C8.pe_c cc hr hk hg (pa_cons pe_we (pa_cons pe_we pa_nil hs2) hs) hdb hs hpl) h
theorem we_call3 {sp : Sp} {H : Hp} {Q : VK} (cc : C8.Cal X.prog X.w X.K X.mg X.base k x sp []) (hr : Room j X.A) (h : WE X a σ H fun v H1 => WE X b σ H1 fun u H2 => WE X c σ H2 fun w H3 => sp [v, u, w] H3 Q C8.E0) (hk : k ≤ j := by decide) (hg : Gl X x := by rfl)
    (hdb : (x == ("__debug__" : Str)) = false := by decide) (hs : starEach [a, b, c] X.env = (false, eval a X.env) :: starEach [b, c] X.env := by rfl) (hs2 : starEach [b, c] X.env = (false, eval b X.env) :: starEach [c] X.env := by rfl) (hs3 : starEach [c] X.env = (false, eval c X.env) :: starEach [] X.env := by rfl) (hpl : (backTo pos (starEach [b, c] X.env)).any (·.1) = false := by rfl) : WE X (.Call (.Name x p) [a, b, c] [] pos) σ H Q :=
  WE.of (C8.pe_c cc hr hk hg (pa_cons pe_we (pa_cons pe_we (pa_cons pe_we pa_nil hs3) hs2) hs) hdb hs hpl) h
theorem we_v (i : Nat) {v : V} {H : Hp} {Q : VK} (h : σ[i]? = some (some v)) (q : Q v H) (hN : X.N[i]? = some x := by rfl) (hv : Vis X.env.scope x := by first | exact Or.inl rfl | exact Or.inr (Or.inl rfl) | exact Or.inr (Or.inr rfl)) (hd : (x == ("__debug__" : Str)) = false := by decide)
    (hcd : (x == ("__classdict__" : Str)) = false := by decide) : WE X (.Name x pos) σ H Q := WE.of (pv i hN hv hd hcd) ⟨v, h, q⟩

/-- a def that stands in a slot is called: one argument -/
theorem Ev.callL (i : Nat) {f0 : Addr} {pre : α → Prop} {f : α → β} {z : α} (c : C8.CalAt X.prog X.w X.K X.mg X.base k f0 (P1 pre f)) (hr : Room j X.A) (hσ : σ[i]? = some (some (.ref f0))) (ha : Ev X a σ G z) (hp : pre z) (hk : k ≤ j := by decide) (hN : X.N[i]? = some x := by rfl)
    (hv : Vis X.env.scope x := by first | exact Or.inl rfl | exact Or.inr (Or.inl rfl) | exact Or.inr (Or.inr rfl)) (hdb : (x == ("__debug__" : Str)) = false := by decide) (hcd : (x == ("__classdict__" : Str)) = false := by decide)
    (hs : starEach [a] X.env = (false, eval a X.env) :: starEach [] X.env := by rfl) (hpl : (backTo pos (starEach [] X.env)).any (·.1) = false := by rfl) : Ev X (.Call (.Name x p) [a] [] pos) σ G (f z) := fun G1 H1 Q s1 s2 kk => by
  obtain ⟨fd, ps, F, kp, bi⟩ := c.ex
  exact WE.of (pe_callL (CX := C8.CX0) (E := C8.E0) (sp := P1 pre f) F (hr.mono hk) hN hv kp bi .nil C8.pass0 (pa_cons pe_we pa_nil hs) hdb hcd hs hpl) ⟨hσ, ha G1 H1 _ s1 s2 fun G2 H2 v g r => ⟨G2, v, z, rfl, g.s, r, hp, fun G3 H3 w g2 r2 => kk _ _ _ (g.trans g2) r2⟩⟩
/-- try: body / except ..: .., where the body raises nothing -/
theorem Bl.try_ (N1 : St → Hp → Prop) {body : List Stmt} {h0 : ExceptHandler} {hs : List ExceptHandler} (hb : Bl X.nox body σ G N1 R) (k : ∀ σ' G', Same G G' → N1 σ' G' → Bl X rest σ' G' N R) : Bl X (.Try body (h0 :: hs) [] [] pos :: rest) σ G N R := fun G1 H1 D s1 s2 kn kr =>
  WS.cons (ps_try_thru0 (t := WS X.nox body) pss_ws) (hb G1 H1 _ s1 s2 (fun G2 H2 σ' g n => k σ' G2 (s1.trans g.g) n G2 H2 D (Same.refl _) g.s (fun G3 H3 σ2 g2 => kn G3 H3 σ2 (g.trans g2)) fun G3 H3 v g2 => kr G3 H3 v (g.trans g2)) fun G2 H2 v g => kr G2 H2 v g)
end

/-! ### dicts with text keys -/
structure DctS (β : Type) where
  kvs : List (Str × β)
  deriving DecidableEq
def KvR {β : Type} [Rp β] (H : Hp) (p : Key × V) (q : Str × β) : Prop := p.1 = Sum.inr q.1 ∧ rp H p.2 q.2
instance {β : Type} [Rp β] : Rp (DctS β) := ⟨fun H v d => ∃ p kvs, v = .ref p ∧ H p = some (.dK kvs) ∧ Paired (KvR H) kvs d.kvs, fun s ⟨p, kvs, e, h, q⟩ => ⟨p, kvs, e, s _ _ h, pmono q fun _ _ r => ⟨r.1, rup s r.2⟩⟩⟩
instance {β : Type} [Rp β] : Ty (DctS β) := ⟨"dict", fun ⟨p, kvs, e, h, _⟩ => by subst e; exact .base (.dK h)⟩
theorem merge_nodup : ∀ {more acc : List (Key × V)}, ((acc ++ more).map (·.1)).Nodup → mergeK acc more = acc ++ more
  | [], acc, _ => by simp [mergeK]
  | kv :: more, acc, h => by
    have hn : (acc.any fun q => decide (q.1 = kv.1)) = false := by
      rw [List.any_eq_false]
      intro q hq
      have h' : (acc.map (·.1) ++ kv.1 :: more.map (·.1)).Nodup := by simpa using h
      rw [List.nodup_append] at h'
      have := h'.2.2 q.1 (List.mem_map_of_mem hq) kv.1 (by simp)
      simpa using this
    have e : putK acc kv.1 kv.2 = acc ++ [kv] := by
      unfold putK
      rw [hn, if_neg (by decide)]
    show mergeK (putK acc kv.1 kv.2) more = _
    rw [e, merge_nodup (by simpa using h)]
    simp
section
variable {α β γ δ : Type} [Rp α] [Rp β] [Rp γ] [Rp δ] {X : Cx} {e o a b c tg : Expr} {σ : St} {G G1 H1 : Hp} {pos p apos : Pos} {rest th : List Stmt} {N : St → Hp → Prop} {R : V → Hp → Prop} {k j : Nat}
theorem pairs_data {G : Hp} : ∀ {xs : List V} {l : List (Str × β)}, Paired (rp G) xs l → ∃ (ps : List Addr) (kvs : List (Key × V)), xs = ps.map V.ref ∧ Paired (fun p (kv : Key × V) => G p = some (.tup [kV kv.1, kv.2])) ps kvs ∧ Paired (KvR G) kvs l
  | _, _, .nil => ⟨[], [], rfl, .nil, .nil⟩
  | _, _, .cons (b := d) r t => by
    obtain ⟨ps, kvs, e, h1, h2⟩ := pairs_data t
    obtain ⟨p, x, y, rfl, hp, r1, r2⟩ := r
    have e1 : x = V.str d.1 := r1
    subst e1
    exact ⟨p :: ps, (Sum.inr d.1, y) :: kvs, by rw [e]; rfl, .cons hp h1, .cons ⟨rfl, r2⟩ h2⟩
theorem kvr_keys {G : Hp} : ∀ {kvs : List (Key × V)} {l : List (Str × β)}, Paired (KvR G) kvs l → kvs.map (·.1) = (l.map (·.1)).map Sum.inr
  | _, _, .nil => rfl
  | _, _, .cons r t => by rw [List.map_cons, List.map_cons, List.map_cons, ← kvr_keys t, r.1]
/-- dict(pairs), the keys unlike -/
theorem Ev.dictP {l : List (Str × β)} (B : Bt X.mg) (h : Ev X e σ G l) (hn : (l.map (·.1)).Nodup) (hc : X.calm = true := by rfl) (hg : Gl X "dict" := by rfl) (hs : starEach [e] X.env = (false, eval e X.env) :: starEach [] X.env := by rfl) (hpl : (backTo pos (starEach [] X.env)).any (·.1) = false := by rfl) :
    Ev X (.Call (.Name "dict" p) [e] [] pos) σ G (DctS.mk l) :=
  Ev.t1 (call_dictP hc) boot_dict' (fun G H v Q s r k => by
    obtain ⟨q, xs, rfl, h1, pr⟩ := r
    obtain ⟨ps, kvs, rfl, h2, h3⟩ := pairs_data pr
    refine ⟨q, ps, kvs, rfl, SqL.of (s _ _ h1), pmono h2 fun _ _ e => SqT.of (s _ _ e), fun p' hp => ?_⟩
    have hk : ((([] : List (Key × V)) ++ kvs).map (fun q => q.1)).Nodup := by
      rw [List.nil_append, kvr_keys h3]
      exact List.Pairwise.map (S := fun a b => a ≠ b) Sum.inr (fun a b (h : a ≠ b) e => h (Sum.inr.inj e)) hn
    rw [merge_nodup hk, List.nil_append]
    have g := Gr.new (o := .dK kvs) s hp
    exact k _ _ _ g ⟨p', kvs, rfl, upd_same, pmono h3 fun _ _ r => ⟨r.1, rup g.g r.2⟩⟩) B.dict h hg (by decide) (by decide) hs hpl
end
end D1
namespace D1
open PySem L2 Rp
section
variable {α β γ δ : Type} [Rp α] [Rp β] [Rp γ] [Rp δ] {P : Program} {w : World} {K : PySem.W.Frag} {mg : Str → Option Value} {base : Heap} {x q : Str} {st : Stmt} {f C : Addr} {fd : FuncData} {N ps : List Str} {k : Nat}
/-- methods: what a body is to show -/
theorem fk1 {pre : α → Prop} {g : α → β} (F : C8.Fun K x q st f fd) (S : FnScope N ps (C8.fnScope st)) (hl : ps.length = 1)
    (body : ∀ (cdv : Value) (A : Around) (outer : List Env) (s : Shared) (H : Hp) (E : XK) (G : Hp) (v : V) (a : α), Room k (BX P w K mg base N q st f cdv A outer s H E).A → rp G v a → pre a →
      Bl (BX P w K mg base N q st f cdv A outer s H E) (C8.fnBody st) (start N [v]) G (fun _ G => rp G .non (g a)) (RV (g a))) : FnOk P w K mg base C8.CX0 (k + 1) f fd ps (P1 pre g) := by
  refine C8.fn0 F S (fun vs H Q E h => ?_) fun cdv A outer s H vs Q E hr h => ?_
  · obtain ⟨G, v, a, rfl, _⟩ := h
    exact hl.symm
  · obtain ⟨G, v, a, rfl, s1, r, p, kk⟩ := h
    exact ⟨_, pss_ws, body cdv A outer s H E G v a hr r p G H _ (Same.refl G) s1 (fun G2 H2 _ g n => kk G2 H2 _ g n) fun G2 H2 v g r => kk G2 H2 v g r⟩
theorem fk2 {pre : α → β → Prop} {g : α → β → γ} (F : C8.Fun K x q st f fd) (S : FnScope N ps (C8.fnScope st)) (hl : ps.length = 2)
    (body : ∀ (cdv : Value) (A : Around) (outer : List Env) (s : Shared) (H : Hp) (E : XK) (G : Hp) (u v : V) (a : α) (b : β), Room k (BX P w K mg base N q st f cdv A outer s H E).A → rp G u a → rp G v b → pre a b →
      Bl (BX P w K mg base N q st f cdv A outer s H E) (C8.fnBody st) (start N [u, v]) G (fun _ G => rp G .non (g a b)) (RV (g a b))) : FnOk P w K mg base C8.CX0 (k + 1) f fd ps (P2 pre g) := by
  refine C8.fn0 F S (fun vs H Q E h => ?_) fun cdv A outer s H vs Q E hr h => ?_
  · obtain ⟨G, u, v, a, b, rfl, _⟩ := h
    exact hl.symm
  · obtain ⟨G, u, v, a, b, rfl, s1, r1, r2, p, kk⟩ := h
    exact ⟨_, pss_ws, body cdv A outer s H E G u v a b hr r1 r2 p G H _ (Same.refl G) s1 (fun G2 H2 _ g n => kk G2 H2 _ g n) fun G2 H2 v g r => kk G2 H2 v g r⟩
end
section
variable {α : Type} [Rp α] {X : Cx} {e : Expr} {σ : St} {G : Hp} {pos p q : Pos} {C : Addr} [In1 α C]
/-- isinstance(e, C), C the own class of the data -/
theorem Ev.isC {d : α} {x : Str} (B : Bt X.mg) (c : C8.InsC X.K C) (hm : X.mg x = some (.ref C)) (h : Ev X e σ G d) (hg : Gl X "isinstance" := by rfl) (hgx : Gl X x := by rfl) (hdb : (x == ("__debug__" : Str)) = false := by decide)
    (hs : starEach [e, .Name x q] X.env = (false, eval e X.env) :: starEach [.Name x q] X.env := by rfl) (hs2 : starEach [.Name x q] X.env = (false, eval (.Name x q) X.env) :: starEach [] X.env := by rfl) (hpl : (backTo pos (starEach [.Name x q] X.env)).any (·.1) = false := by rfl) :
    Ev X (.Call (.Name "isinstance" p) [e, .Name x q] [] pos) σ G true := fun G1 H1 Q s1 s2 k =>
  WE.of (pe_callB (C8.call_isC c) hg B.isinstance boot_isinstance' (pa_cons pe_we (pa_cons (pe_glob (v := .ref C) hgx hm rfl hdb) pa_nil hs2) hs) (by decide) (by decide) hs hpl) (h G1 H1 _ s1 s2 fun G2 H2 v g r => by
    obtain ⟨a, dx, fs, rfl, h1⟩ := In1.ins r
    exact ⟨a, dx, fs, rfl, g.s _ _ h1, k _ _ _ g rfl⟩)
end
end D1

namespace D1
open PySem L2 Rp Da
open PySem.W (alike alikeAll dataLe TotalLe sortLe_total EachIs)
open PyProof.Rows (lexLt itemOrd listOrd lex_irrefl)

/-- data that are sorted as Python sorts them -/
class So (α : Type) [Rp α] [Da α] where
  al : ∀ a b : α, alike (toD a) (toD b) = true
  so : (∀ b : α, ∃ x r, toD b = .tuple (x :: r)) ∨ (∀ b : α, toD b ≠ .none ∧ ∀ xs, toD b ≠ .tuple xs)
instance : So Int := ⟨fun a b => by show alike (.int a) (.int b) = true; simp [alike], .inr fun b => ⟨(by intro h; cases h), fun xs h => by cases h⟩⟩
instance : So Str := ⟨fun a b => by show alike (.str a) (.str b) = true; simp [alike], .inr fun b => ⟨(by intro h; cases h), fun xs h => by cases h⟩⟩
theorem alikeAll_of {α : Type} [Rp α] [Da α] [So α] : ∀ as bs : List α, alikeAll (as.map toD) (bs.map toD) = true
  | [], _ => by simp [alikeAll]
  | _ :: _, [] => by simp [alikeAll]
  | a :: as, b :: bs => by rw [List.map_cons, List.map_cons, alikeAll, So.al, alikeAll_of as bs]; rfl
instance {α : Type} [Rp α] [Da α] [So α] : So (List α) := ⟨fun a b => by show alike (.list _) (.list _) = true; simp only [alike]; exact alikeAll_of a b, .inr fun b => ⟨(by intro h; cases h), fun xs h => by cases h⟩⟩
instance {α β : Type} [Rp α] [Rp β] [Da α] [Da β] [So α] [So β] : So (α × β) := ⟨fun a b => by
  show alike (.tuple _) (.tuple _) = true
  simp only [alike, alikeAll, So.al, Bool.and_true], .inl fun b => ⟨_, _, rfl⟩⟩
instance {α β γ : Type} [Rp α] [Rp β] [Rp γ] [Da α] [Da β] [Da γ] [So α] [So β] [So γ] : So (T3 α β γ) := ⟨fun a b => by
  show alike (.tuple _) (.tuple _) = true
  simp only [alike, alikeAll, So.al, Bool.and_true], .inl fun b => ⟨_, _, rfl⟩⟩
def leD {α : Type} [Rp α] [Da α] (a b : α) : Bool := dataLe false (toD : α → PyData) a b
def sortD {α : Type} [Rp α] [Da α] (l : List α) : List α := l.mergeSort leD
theorem each_of_paired {α : Type} {F : V → α → Prop} : ∀ {xs : List V} {us : List Value} {as : List α}, Paired F xs as → Vals xs us → EachIs (fun u a => ∃ x, RelV x u ∧ F x a) us as
  | _, _, _, .nil, .nil => .nil
  | _, _, _, .cons r t, .cons r' t' => .cons ⟨_, r', r⟩ (each_of_paired t t')
theorem paired_of_each {α : Type} {F : V → α → Prop} : ∀ {us : List Value} {as : List α}, EachIs (fun u a => ∃ x, RelV x u ∧ F x a) us as → ∃ xs, Vals xs us ∧ Paired F xs as
  | _, _, .nil => ⟨[], .nil, .nil⟩
  | _, _, .cons ⟨x, r1, r2⟩ t => by
    obtain ⟨xs, h1, h2⟩ := paired_of_each t
    exact ⟨x :: xs, .cons r1 h1, .cons r2 h2⟩
section
variable {α : Type} [Rp α] [Da α] [So α] {X : Cx}
/-- sorted(xs) of such data -/
def rSortD (α : Type) [Rp α] [Da α] : List V → Hp → VK → Prop := fun vs H Q => ∃ G v, ∃ l : List α, vs = [v] ∧ Same G H ∧ rp G v l ∧ ∀ p xs, H p = none → Paired (rp G) xs (sortD l) → Q (.ref p) (upd H p (.lst xs))
theorem cr_sortD (hu : X.A.units + 2 + dep α < cLine) : CallR X (.builtin "sorted") (rSortD α) := by
  intro pins s σ H vs us Q I r h
  obtain ⟨G, v, l, rfl, sG, ⟨a, xs, rfl, ha, pr⟩, q⟩ := h
  obtain ⟨its, rv, pl, hz⟩ := I.list (SqL.of (sG _ _ ha))
  rw [Vals.ref1 r]
  have e := each_of_paired pr rv
  have er : EachIs (fun u (b : α) => ∃ as, Reads s.heap u (toD b) as) its l := e.mono fun u b ⟨x, r1, r2⟩ => Dp.reads I (toD b) x u (dp (rup sG r2)) r1
  have hs : PySem.W.Sortable (l.map (toD : α → PyData)) := by
    rcases So.so (α := α) with h | h
    · exact PySem.W.Sortable.tuples h
    · exact PySem.W.Sortable.others h
  refine PySem.W.sorted_data (enc := (toD : α → PyData)) (bs := l) pl.isList e er (PySem.W.AllAlike.of So.al) hs (by rw [← pr.length]; exact hz) (fun b _ => by have := dpt b; omega) fun out ho eo => ?_
  obtain ⟨ys, h1, h2⟩ := paired_of_each eo
  obtain ⟨ep, he⟩ := PyProof.Rows.sortedAll_at s.heap its out.toArray
  have hlen : ys.length ≤ sizeLine := by rw [h1.length, ho, ← pr.length]; exact hz
  exact ⟨.ref _, upd H (s.heap.objs.size + 1) (.lst ys), I.laid (t' := s.toks) (fun _ _ => PyProof.Rows.sortedAll_old) (Nat.le_succ _) ⟨hlen, out, ep, h1, he⟩, rfl, q _ _ (I.hok.fresh (Nat.le_succ _)) h2⟩
variable {e : Expr} {σ : St} {G : Hp} {p pos : Pos}
theorem Ev.sortedD {l : List α} (B : Bt X.mg) (hu : X.A.units + 64 < cLine) (h : Ev X e σ G l) (hd : dep α ≤ 62 := by decide) (hg : Gl X "sorted" := by rfl) (hs : starEach [e] X.env = (false, eval e X.env) :: starEach [] X.env := by rfl) (hpl : (backTo pos (starEach [] X.env)).any (·.1) = false := by rfl) :
    Ev X (.Call (.Name "sorted" p) [e] [] pos) σ G (sortD l) :=
  Ev.b1 (cr_sortD (α := α) (by omega)) boot_sorted' (fun G H v Q s r k => ⟨G, v, l, rfl, s, r, fun q xs hq pr => by
    have g := Gr.new (o := .lst xs) s hq
    exact k _ _ _ g ⟨q, xs, rfl, upd_same, pmono pr fun _ _ => rup g.g⟩⟩) B.sorted h hg (by decide) (by decide) hs hpl
end
/-! the order -/
section
variable {α : Type} [Rp α] [Da α]
theorem leD_le : TotalLe (leD : α → α → Bool) := sortLe_total _ false _
theorem leD_trans (a b c : α) (h1 : leD a b = true) (h2 : leD b c = true) : leD a c = true := leD_le.trans a b c h1 h2
theorem leD_total (a b : α) : (leD a b || leD b a) = true := by rcases leD_le.total a b with h | h <;> simp [h]
theorem leD_antisymm [So α] [DecidableEq α] [De α] {a b : α} (h1 : leD a b = true) (h2 : leD b a = true) : a = b := by
  unfold leD at h1 h2
  rw [PySem.W.dataLe_eq] at h1 h2
  have e1 : PySem.W.dataLt (toD b) (toD a) = false := by simpa using h1
  have e2 : PySem.W.dataLt (toD a) (toD b) = false := by simpa using h2
  unfold PySem.W.dataLt at e1 e2
  have e3 := (listOrd itemOrd).total _ _ e2 e1
  have e4 : PyData.eqv (toD a) (toD b) = true := by
    cases h : PyData.eqv (toD a) (toD b) with
    | true => rfl
    | false =>
      have q := (PySem.W.toks_eqv (toD a) (toD b) (So.al a b)).2 h [] [.inl 0]
      rw [e3, PySem.W.lex_pre] at q
      have z : lexLt itemOrd (PySem.W.keyToks (toD b)) (PySem.W.keyToks (toD b)) = false := lex_irrefl _
      rw [z] at q
      exact absurd (show true = false from q) (by decide)
  rw [De.eqv] at e4
  exact of_decide_eq_true e4
def SortedD (l : List α) : Prop := l.Pairwise fun a b => leD a b = true
theorem sortD_perm (l : List α) : (sortD l).Perm l := List.mergeSort_perm l leD
theorem sortD_sorted (l : List α) : SortedD (sortD l) := List.pairwise_mergeSort leD_trans leD_total l
theorem mem_sortD {l : List α} {x : α} : x ∈ sortD l ↔ x ∈ l := (sortD_perm l).mem_iff
theorem sortD_length (l : List α) : (sortD l).length = l.length := (sortD_perm l).length_eq
variable [So α] [DecidableEq α] [De α]
theorem sortedD_unique : ∀ {l m : List α}, l.Perm m → SortedD l → SortedD m → l = m
  | [], m, p, _, _ => (List.nil_perm.mp p).symm
  | a :: l, [], p, _, _ => absurd p.length_eq (by simp)
  | a :: l, b :: m, p, h1, h2 => by
    have hab : a = b := by
      have ha : a ∈ b :: m := p.mem_iff.mp (List.mem_cons_self)
      have hb : b ∈ a :: l := p.mem_iff.mpr (List.mem_cons_self)
      rcases List.mem_cons.mp ha with e | ha
      · exact e
      rcases List.mem_cons.mp hb with e | hb
      · exact e.symm
      exact leD_antisymm (List.rel_of_pairwise_cons h1 hb) (List.rel_of_pairwise_cons h2 ha)
    subst hab
    rw [sortedD_unique (List.Perm.cons_inv p) (List.Pairwise.of_cons h1) (List.Pairwise.of_cons h2)]
theorem sortD_eq {l m : List α} (p : m.Perm l) (h : SortedD m) : sortD l = m := sortedD_unique ((sortD_perm l).trans p.symm) (sortD_sorted l) h
theorem sortD_self {l : List α} (h : SortedD l) : sortD l = l := sortD_eq (List.Perm.refl l) h
end
/-! a list without doubles, as they first come -/
section
variable {α : Type} [DecidableEq α]
def d1 (acc : List α) (x : α) : List α := if x ∈ acc then acc else acc ++ [x]
def dedup (l : List α) : List α := l.foldl d1 []
theorem foldl_d1_nodup : ∀ {l acc : List α}, acc.Nodup → (l.foldl d1 acc).Nodup
  | [], _, h => h
  | x :: l, acc, h => by
    refine foldl_d1_nodup (l := l) ?_
    unfold d1
    split
    · exact h
    · rename_i hn
      rw [List.nodup_append]
      exact ⟨h, by simp, fun a ha b hb e => hn (by have : b = x := by simpa using hb
                                                   rw [← this, ← e]; exact ha)⟩
theorem dedup_nodup (l : List α) : (dedup l).Nodup := foldl_d1_nodup List.nodup_nil
theorem mem_foldl_d1 {y : α} : ∀ {l acc : List α}, y ∈ l.foldl d1 acc ↔ y ∈ acc ∨ y ∈ l
  | [], acc => by simp
  | x :: l, acc => by
    rw [List.foldl_cons, mem_foldl_d1]
    unfold d1
    split
    · rename_i h
      constructor
      · rintro (h' | h')
        · exact .inl h'
        · exact .inr (List.mem_cons_of_mem _ h')
      · rintro (h' | h')
        · exact .inl h'
        · rcases List.mem_cons.mp h' with e | h'
          · exact .inl (e ▸ h)
          · exact .inr h'
    · simp [or_assoc]
theorem mem_dedup {l : List α} {y : α} : y ∈ dedup l ↔ y ∈ l := by unfold dedup; rw [mem_foldl_d1]; simp
theorem foldl_d1_sub : ∀ {l acc : List α}, (l.foldl d1 acc).Sublist (acc ++ l)
  | [], acc => by simp
  | x :: l, acc => by
    rw [List.foldl_cons]
    refine (foldl_d1_sub (l := l)).trans ?_
    unfold d1
    split
    · exact List.Sublist.append_left (List.sublist_cons_self x l) acc
    · simp
theorem dedup_sub (l : List α) : (dedup l).Sublist l := by have := foldl_d1_sub (l := l) (acc := []); simpa [dedup] using this
theorem dedup_length (l : List α) : (dedup l).length ≤ l.length := (dedup_sub l).length_le
theorem foldl_d1_id : ∀ {l acc : List α}, (acc ++ l).Nodup → l.foldl d1 acc = acc ++ l
  | [], acc, _ => by simp
  | x :: l, acc, h => by
    have hx : x ∉ acc := fun hh => by
      rw [List.nodup_append] at h
      exact h.2.2 x hh x (by simp) rfl
    have hd : d1 acc x = acc ++ [x] := if_neg hx
    rw [List.foldl_cons, hd, foldl_d1_id (by simpa using h)]
    simp
theorem dedup_id {l : List α} (h : l.Nodup) : dedup l = l := by unfold dedup; rw [foldl_d1_id (by simpa using h)]; simp
theorem dedup_snoc {l : List α} {i : Nat} {x : α} (h : l[i]? = some x) : dedup (l.take (i + 1)) = d1 (dedup (l.take i)) x := by
  have e : l.take (i + 1) = l.take i ++ [x] := by rw [List.take_succ, h]; rfl
  unfold dedup
  rw [e, List.foldl_append]; rfl
end
end D1

namespace D1
open PySem L2 Rp
section
variable {α β γ δ : Type} [Rp α] [Rp β] [Rp γ] [Rp δ] {X : Cx} {e a b c tg : Expr} {σ : St} {G G1 H1 : Hp} {pos p apos : Pos} {rest th : List Stmt} {D : Ends}
/-- a for whose body may write -/
theorem ws_for {iter : Expr} {body : List Stmt} {l : List γ} {g : TG} {B : γ → Hp → St → St → Prop} (I : Nat → St → Hp → Hp → Prop) (s1 : Same G G1) (s2 : Same G1 H1)
    (hi : EI X tg iter σ G l) (hB : TgB g B) (hg : PG X tg g) (h0 : ∀ G2 H2, Gr G1 H1 G2 H2 → I 0 σ G2 H2)
    (hs : ∀ i c σ1 G2 H2, l[i]? = some c → Same G1 G2 → Same G2 H2 → I i σ1 G2 H2 → ∀ G3 H3 σ2, Gr G2 H2 G3 H3 → B c G3 σ1 σ2 →
      WS X body { nx := fun σ' H' => ∃ G', Same G3 G' ∧ Same G' H' ∧ I (i + 1) σ' G' H', rt := D.rt, ct := fun σ' H' => ∃ G', Same G3 G' ∧ Same G' H' ∧ I (i + 1) σ' G' H', bk := fun σ' H' => WS X rest D σ' H' } σ2 H3)
    (k : ∀ σ1 G2 H2, Same G1 G2 → Same G2 H2 → I l.length σ1 G2 H2 → WS X rest D σ1 H2) (hp : PassesOwn (model X.prog X.w) X.A X.env X.xe) (hc : X.calm = true := by rfl)
    (hso : ∀ x, foldedSetIterable iter X.env x = pure x := by intro _; rfl) : WS X (.For tg iter body [] pos :: rest) D σ H1 :=
  WS.cons (ps_for hp hc pi_wi hg pss_ws hso) (hi G1 H1 _ s1 s2 fun J S Y G2 H2 g2 w hS hY => for_it w (fun i σ' H' => ∃ G3, Same G2 G3 ∧ Same G3 H' ∧ I i σ' G3 H') ⟨G2, Same.refl _, g2.s, h0 G2 H2 g2⟩
    (fun i σ' H' _ ⟨G3, a1, a2, _⟩ => hS H' (a1.trans a2))
    (fun i x σ' H' H'' hi' ⟨G3, a1, a2, a3⟩ y => by
      obtain ⟨c, G4, hc', g4, r⟩ := hY i H' x H'' hi' y G3 a1 a2
      refine hB c G4 H'' x _ _ g4.s r fun σ2 b => ?_
      have h := hs i c σ' G3 H' hc' (g2.g.trans a1) a2 a3 G4 H'' σ2 g4 b
      intro pins s Iv
      refine thn (h pins s Iv) fun f s' q => ?_
      match f, q with
      | .next, ⟨σ3, H3, I3, G5, b1, b2, b3⟩ => exact ⟨σ3, H3, I3, G5, (a1.trans g4.g).trans b1, b2, b3⟩
      | .cont, ⟨σ3, H3, I3, G5, b1, b2, b3⟩ => exact ⟨σ3, H3, I3, G5, (a1.trans g4.g).trans b1, b2, b3⟩
      | .brk, ⟨σ3, H3, I3, q⟩ => exact ⟨σ3, H3, I3, q⟩
      | .ret u, ⟨v, σ3, H3, I3, rv, q⟩ => exact ⟨v, σ3, H3, I3, rv, q⟩)
    fun σ' H' ⟨G3, a1, a2, a3⟩ => k σ' G3 H' (g2.g.trans a1) a2 a3)
/-- x in (a, b), texts -/
theorem r2_inT2 {K : PySem.W.Frag} {neg : Bool} {x y z : Str} : R2K (rIn K neg) x (y, z) (if neg then !decide (x = y ∨ x = z) else decide (x = y ∨ x = z)) := fun G H u v Q s r1 r2 k => by
  cases r1
  obtain ⟨q, u1, u2, rfl, h1, e1, e2⟩ := r2
  cases e1
  cases e2
  refine ⟨q, [.str y, .str z], rfl, .inr (SqT.of (s _ _ h1)), rfl, rfl, ?_⟩
  have h1 : ∀ u v : Str, eqV (.str u) (.str v) = (u == v) := fun u v => rfl
  have e : inV (.str x) [.str y, .str z] = decide (x = y ∨ x = z) := by
    show (eqV (.str y) (.str x) || (eqV (.str z) (.str x) || false)) = _
    rw [h1, h1, Bool.or_false, Bool.eq_iff_iff, Bool.or_eq_true, decide_eq_true_eq, beq_iff_eq, beq_iff_eq]
    exact ⟨fun h => h.imp Eq.symm Eq.symm, fun h => h.imp Eq.symm Eq.symm⟩
  rw [e]
  exact k _ _ _ (GrM.refl s) rfl
theorem ET.niT2 {x y z : Str} (ha : Ev X a σ G x) (hb : Ev X b σ G (y, z)) (hm : behindInMarks .NotIn b = false := by rfl) : ET X (.Compare a [.NotIn] [b] pos) σ G (!decide (x = y ∨ x = z)) := ET.cmp op_notIn_seq hm (r2_inT2 (neg := true)) ha hb
/-- what stands is read beside what is mutable: the borrowed object goes back -/
def rm (G : Hp) (p : Addr) : Hp := fun b => if b = p then none else G b
theorem Gr.give {G H G2 H2 : Hp} {p : Addr} {o : HO} (hG : G p = none) (hH : H p = some o) (g : Gr (upd G p o) H G2 H2) : Gr G H (rm G2 p) H2 := by
  refine ⟨fun b u e => ?_, g.h, fun b u e => ?_, fun b e n => ?_, g.d⟩
  · have hb : b ≠ p := ne_of_none e hG
    unfold rm
    rw [if_neg hb]
    exact g.g b u (by rw [upd_ne hb]; exact e)
  · unfold rm at e
    split at e
    · cases e
    · exact g.s b u e
  · unfold rm
    split
    · rfl
    · rename_i hb
      exact g.f b (by rw [upd_ne hb]; exact e) n
theorem same_borrow {G H : Hp} {p : Addr} {o : HO} (s : Same G H) (hH : H p = some o) : Same (upd G p o) H := fun b u e => by
  by_cases hb : b = p
  · subst hb; rw [upd_same] at e; cases e; exact hH
  · rw [upd_ne hb] at e; exact s b u e
theorem rm_none {G : Hp} {p : Addr} : rm G p p = none := by unfold rm; rw [if_pos rfl]
end
end D1
namespace D1
open PySem L2 Rp
/-- what was made on the way stands from now on -/
theorem GrM.promote {M : Addr → Prop} {G H G' H' : Hp} {p : Addr} {o : HO} (g : GrM M G H G' H') (hp : H p = none) (gp : G' p = none) (ho : H' p = some o) : GrM M G H (upd G' p o) H' := by
  refine ⟨g.g.trans (same_new gp), g.h, same_borrow g.s ho, fun b e n => ?_, g.d⟩
  rw [upd_ne (fun z => n (by rw [z]; exact hp))]
  exact g.f b e n
theorem GrM.fresh {M : Addr → Prop} {G H G' H' : Hp} {p : Addr} (g : GrM M G H G' H') (h : H' p = none) : H p = none := by
  cases e : H p with
  | none => rfl
  | some o => exact absurd h (g.d p (by rw [e]; exact fun z => nomatch z))
end D1

namespace D1
open PySem L2 Rp
section
variable {α β γ δ : Type} [Rp α] [Rp β] [Rp γ] [Rp δ] {X : Cx} {a b c e tg : Expr} {σ : St} {G : Hp} {pos p q px : Pos} {N : St → Hp → Prop} {R : V → Hp → Prop} {rest : List Stmt}
/-! ### numbers -/
def CPowX (i j : Int) : Prop := 0 ≤ j ∧ (Builtin.Int.intBits i : Int) * j ≤ 2 ^ 27
theorem op_powX : OpR X (binaryOp .Pow) (rI CPowX fun i j => .int (i ^ j.toNat)) := opI fun _ _ _ _ _ _ _ hc q => PyProof.Rows.pow_int hc.1 hc.2 q
theorem Ev.mul {i j : Int} (ha : Ev X a σ G i) (hb : Ev X b σ G j) (h : CMul i j) : Ev X (.BinOp a .Mult b pos) σ G (i * j) := Ev.op op_mul (r2_I h) ha hb
theorem Ev.mod {i j : Int} (ha : Ev X a σ G i) (hb : Ev X b σ G j) (h : 0 < j) : Ev X (.BinOp a .Mod b pos) σ G (i % j) := Ev.op op_mod (r2_I h) ha hb
theorem Ev.fdiv {i j : Int} (ha : Ev X a σ G i) (hb : Ev X b σ G j) (h : CDiv i j) : Ev X (.BinOp a .FloorDiv b pos) σ G (i / j) := Ev.op op_fdiv (r2_I h) ha hb
theorem Ev.pow {i j : Int} (ha : Ev X a σ G i) (hb : Ev X b σ G j) (h : CPowX i j) : Ev X (.BinOp a .Pow b pos) σ G (i ^ j.toNat) := Ev.op op_powX (r2_I h) ha hb
theorem Ev.sl2 {l : List α} {i j : Int} {p2 : Pos} (h : Ev X e σ G l) (ha : Ev X a σ G i) (hb : Ev X b σ G j) : Ev X (.Subscript e (.Slice (some a) (some b) none p2) pos) σ G (cutL l (some i) (some j)) := fun G1 H1 Q s1 s2 k =>
  WE.of (pe_slice sl_list pe_we (po_some pe_we) (po_some pe_we)) (h G1 H1 _ s1 s2 fun G2 H2 v g r => ha G2 H2 _ (s1.trans g.g) g.s fun G3 H3 u g2 r2 => ⟨i, r2, hb G3 H3 _ (s1.trans (g.trans g2).g) g2.s fun G4 H4 u2 g3 r3 => ⟨j, r3, rSl_data g3.s (rup (g2.trans g3).g r) fun G5 H5 w g4 r4 => k _ _ _ (((g.trans g2).trans g3).trans g4) r4⟩⟩)
theorem Ev.intB {z : Bool} (hm : X.mg "int" = none) (h : Ev X e σ G z) (hg : Gl X "int" := by rfl) (hs : starEach [e] X.env = (false, eval e X.env) :: starEach [] X.env := by rfl) (hpl : (backTo pos (starEach [] X.env)).any (·.1) = false := by rfl) : Ev X (.Call (.Name "int" p) [e] [] pos) σ G (if z = true then (1 : Int) else 0) :=
  Ev.t1 call_int1 boot_int' (fun G H v Q s r k => by
    cases r
    exact .inr ⟨z, rfl, k _ _ _ (GrM.refl s) rfl⟩) hm h hg (by decide) (by decide) hs hpl
theorem Ev.bits {i : Int} {apos : Pos} (h : Ev X e σ G i) (hbase : attributeBase e "bit_length" X.env (eval e X.env) = eval e X.env := by rfl) (hline : (apos.endLine == pos.line) = true := by rfl) : Ev X (.Call (.Attribute e "bit_length" apos) [] [] pos) σ G ((Builtin.Int.intBits i : Nat) : Int) := fun G1 H1 Q s1 s2 k =>
  WE.of (pe_bits pe_we hbase hline) (h G1 H1 _ s1 s2 fun G2 H2 v g r => by
    cases r
    exact ⟨i, rfl, k _ _ _ g rfl⟩)
/-! ### tuples that are walked -/
structure TupL (α : Type) where
  l : List α
instance : Rp (TupL α) := ⟨fun H v t => ∃ p xs, v = .ref p ∧ H p = some (.tup xs) ∧ Paired (rp H) xs t.l, fun s ⟨p, xs, e, h, q⟩ => ⟨p, xs, e, s _ _ h, pmono q fun _ _ r => rup s r⟩⟩
theorem Ev.tupL {es : List Expr} {xs : List α} {z} (t : EL X es σ G xs) (hz : xs.length ≤ 1000 := by decide) : Ev X (.Tuple es z pos) σ G (TupL.mk xs) := fun G1 H1 Q s1 s2 k =>
  WE.of (pe_tup (t := fun σ' H' Q' => ∀ pos pins s, Inv X pins σ' H' s → wpAny (model X.prog X.w) X.A (spliced (backTo pos (starEach es X.env))) (AP X pins σ' Q') X.xe s) ⟨fun pos pins s σ H Q I h => h pos pins s I⟩)
    (t G1 H1 _ s1 s2 fun G2 H2 vs g r => ⟨by rw [r.length]; exact small_sz hz, fun q hq => by
      have g2 := Gr.new (o := .tup vs) g.s hq
      exact k _ _ _ (g.trans g2) ⟨q, vs, rfl, upd_same, pmono r fun _ _ => rup g2.g⟩⟩)
theorem EI.tupL {t : TupL α} (h : Ev X e σ G t) : EI X tg e σ G t.l := fun G1 H1 R s1 s2 k =>
  WI.of (pi_tup pe_we) (h G1 H1 _ s1 s2 fun G2 H2 v g r => by
    obtain ⟨q, xs, rfl, h1, pr⟩ := r
    have hl := pr.length
    refine ⟨q, rfl, ⟨xs, SqT.of (g.s _ _ h1)⟩, k _ (fun H => SqT X.K H q xs) (YAt xs) G2 H2 g (by rw [← hl]; exact walk_tup) (fun H' s => SqT.of (s _ _ h1)) fun i H x H' hi y G' s3 s4 => ?_⟩
    obtain ⟨rfl, y⟩ := y
    obtain ⟨d, e1, e2⟩ := paired_at pr y
    exact ⟨d, G', e1, GrM.refl s4, rup s3 e2⟩)
/-! ### steps with changes -/
theorem WE.mono {H : Hp} {Q Q' : VK} (h : WE X e σ H Q) (hq : ∀ v H', Q v H' → Q' v H') : WE X e σ H Q' := fun pins s I => thn (h pins s I) fun v s' ⟨x, H', I', r, q⟩ => ⟨x, H', I', r, hq x H' q⟩
theorem we_op {op : Operator} {r : R2} {H : Hp} {Q : VK} (ho : OpR X (binaryOp op) r) (h : WE X a σ H fun u H1 => WE X b σ H1 fun v H2 => r u v H2 Q) : WE X (.BinOp a op b pos) σ H Q := WE.of (pe_op ho pe_we pe_we) h
theorem Ev.ap {e : Expr} {G1 H1 : Hp} {a : α} {Q : VK} (s2 : Same G1 H1) (h : Ev X e σ G1 a) (k : ∀ G2 H2 v, Gr G1 H1 G2 H2 → rp G2 v a → Q v H2) : WE X e σ H1 Q := h G1 H1 Q (Same.refl _) s2 k
theorem ET.ap {e : Expr} {G1 H1 : Hp} {z : Bool} {Q : Bool → Hp → Prop} (s2 : Same G1 H1) (h : ET X e σ G1 z) (k : ∀ G2 H2, Gr G1 H1 G2 H2 → Q z H2) : WT X e σ H1 Q := h G1 H1 Q (Same.refl _) s2 k
/-- a mutable object is read as if it stood -/
theorem Ev.borrow {H : Hp} {q : Addr} {o : HO} {d : α} {Q : VK} (s : Same G H) (hG : G q = none) (hH : H q = some o) (h : Ev X e σ (upd G q o) d) (k : ∀ G2 H2 v, Gr G H G2 H2 → G2 q = none → rp (upd G2 q o) v d → Q v H2) : WE X e σ H Q :=
  h _ H _ (Same.refl _) (same_borrow s hH) fun G2 H2 v g r => k (rm G2 q) H2 v (Gr.give hG hH g) rm_none (rup (fun b u e => by
    by_cases hb : b = q
    · subst hb
      rw [g.g _ _ upd_same] at e
      cases e
      exact upd_same
    · rw [upd_ne hb]
      unfold rm
      rw [if_neg hb]
      exact e) r)
theorem ET.borrow {H : Hp} {q : Addr} {o : HO} {z : Bool} {Q : Bool → Hp → Prop} (s : Same G H) (hG : G q = none) (hH : H q = some o) (h : ET X e σ (upd G q o) z) (k : ∀ G2 H2, Gr G H G2 H2 → G2 q = none → Q z H2) : WT X e σ H Q :=
  h _ H _ (Same.refl _) (same_borrow s hH) fun G2 H2 g => k (rm G2 q) H2 (Gr.give hG hH g) rm_none
/-- xs[k] = e -/
theorem ws_put (i : Nat) {y : Str} {n : Int} {j} {py ip : Pos} {H : Hp} {D : Ends} (h : WE X e σ H fun v H2 => ∃ q xs k, σ[i]? = some (some (.ref q)) ∧ H2 q = some (.lst xs) ∧ ixN xs.length n = some k ∧ WS X rest D σ (upd H2 q (.lst (xs.set k v)))) (hN : X.N[i]? = some y := by rfl) (hv : Vis X.env.scope y := by first | exact Or.inl rfl | exact Or.inr (Or.inl rfl) | exact Or.inr (Or.inr rfl)) (hd : (y == ("__debug__" : Str)) = false := by decide)
    (hcd : (y == ("__classdict__" : Str)) = false := by decide) (hs : swapsWithSole [.Subscript (.Name y py) (.Constant (.int n) j ip) p] e pos.line X.env = pure false := by rfl) (hw : swappedStores [.Subscript (.Name y py) (.Constant (.int n) j ip) p] e X.env = pure none := by rfl)
    (h1 : (assignEach [.Subscript (.Name y py) (.Constant (.int n) j ip) p] X.env).map (·.2) = [assign (.Subscript (.Name y py) (.Constant (.int n) j ip) p) X.env] := by rfl)
    (ha : ∀ v, assign (.Subscript (.Name y py) (.Constant (.int n) j ip) p) X.env v = (do
      let ov ← holding [v] (eval (.Name y py) X.env)
      let iv ← holding [v, ov] (eval (.Constant (.int n) j ip) X.env)
      standAt p
      holding [v, ov, iv] (setItem ov iv v)
      release [v, ov, iv] []) := by intro _; rfl) : WS X (.Assign [.Subscript (.Name y py) (.Constant (.int n) j ip) p] e pos :: rest) D σ H :=
  WS.cons (ps_asg pe_we (pg_sub (pv i hN hv hd hcd) pe_int set_list ha) hs hw h1) (WE.mono h fun v H2 ⟨q, xs, k, e1, e2, e3, e4⟩ => ⟨.ref q, e1, q, xs, n, k, rfl, rfl, e2, e3, e4⟩)
/-! ### walks with changes -/
/-- [elt for target in iter], where elt may write: I by the new list's place, the turn, what is in the list -/
theorem we_lcI {elt iter : Expr} {scope : Scope} {own : List (Str × Nat)} {l : List γ} {g : TG} {B : γ → Hp → St → St → Prop} {G1 H1 : Hp} {Q : VK} (I : Addr → Nat → List V → Hp → Hp → Prop) (s1 : Same G G1) (s2 : Same G1 H1)
    (hi : EI X tg iter σ G l) (hB : TgB g B) (hg : ∀ (s : Shared) (H : Hp) (C : Addr) (cl : List (Str × Addr)) (fp : List Addr), PG (BK X s H scope C cl fp) tg g)
    (h0 : ∀ G2 H2 D, Gr G1 H1 G2 H2 → H2 D = none → I D 0 [] G2 (upd H2 D (.lst [])))
    (he : ∀ D i c acc G2 H2, l[i]? = some c → Same G1 G2 → Same G2 H2 → G2 D = none → H2 D = some (.lst acc) → acc.length = i → H1 D = none → I D i acc G2 H2 → ∀ G3 H3 σ', Gr G2 H2 G3 H3 → B c G3 (wipe σ (own.map (·.2))) σ' → ∀ s H C cl fp,
      WE (BK X s H scope C cl fp) elt σ' H3 fun v H4 => ∃ G4, Same G3 G4 ∧ Same G4 H4 ∧ G4 D = none ∧ H4 D = some (.lst acc) ∧ I D (i + 1) (acc ++ [v]) G4 (upd H4 D (.lst (acc ++ [v]))))
    (k : ∀ D acc G2 H2, Same G1 G2 → Same G2 H2 → G2 D = none → H2 D = some (.lst acc) → H1 D = none → I D l.length acc G2 H2 → Q (.ref D) H2)
    (hw : ∀ c G' σ', B c G' (wipe σ (own.map (·.2))) σ' → wipe σ' (own.map (·.2)) = wipe σ (own.map (·.2))) (hUp : ∀ c G' G'' σ1 σ', Same G' G'' → B c G' σ1 σ' → B c G'' σ1 σ')
    (hz : l.length < sizeLine) (hN : X.N.Nodup) (ok : BlkOk X.N X.env.scope scope own) (hc : X.calm = true := by rfl) (hs : ∀ x, foldedSetIterable iter X.env x = pure x := by intro _; rfl) :
    WE X (.ListComp elt [⟨tg, iter, [], 0⟩] scope pos) σ H1 Q :=
  WE.of (pe_lc (tt := ATs X scope []) (te := AE X scope elt) hc hN pi_wi ok hg (fun s H C cl fp => ⟨fun pins s1 σ' H' Q' I h => h s H C cl fp pins s1 I⟩) (fun s H C cl fp => ⟨fun pins s1 σ' H' Q' I h => h s H C cl fp pins s1 I⟩) hs)
    (hi G1 H1 _ s1 s2 fun J S Y G2 H2 g2 w hS hY D hD => by
      have gD : G2 D = none := g2.s.free hD
      have hD1 : H1 D = none := by
        cases e : H1 D with
        | none => rfl
        | some o => exact absurd hD (g2.d D (by rw [e]; exact fun z => nomatch z))
      refine lc_it (Qd := fun H => Q (.ref D) H) w (fun i H => ∃ G3 acc, Same G2 G3 ∧ Same G3 H ∧ G3 D = none ∧ H D = some (.lst acc) ∧ acc.length = i ∧ I D i acc G3 H) ?_ ?_ ?_ ?_
      · exact ⟨G2, [], Same.refl _, fun b o e => by rw [upd_ne (ne_of_none e gD)]; exact g2.s b o e, gD, upd_same, rfl, h0 G2 H2 D g2 hD⟩
      · rintro i H _ ⟨G3, acc, a1, a2, _⟩
        exact hS H (a1.trans a2)
      · rintro i x H H' hi' ⟨G3, acc, a1, a2, a3, a4, a5, a6⟩ y
        obtain ⟨c, G4, hc', g4, r⟩ := hY i H x H' hi' y G3 a1 a2
        refine hB c G4 H' x _ _ g4.s r fun σ' b => ⟨hw c G4 σ' b, ?_⟩
        intro s0 H0 C cl fp
        refine ETs.nil (X := BK X s0 H0 scope C cl fp) G4 H' _ (Same.refl _) g4.s fun G5 H5 g5 => ?_
        rw [if_pos rfl]
        intro s0 H0 C cl fp
        refine WE.mono (he D i c acc G3 H hc' (g2.g.trans a1) a2 a3 a4 a5 hD1 a6 G5 H5 σ' (g4.trans g5) ?_ s0 H0 C cl fp) fun v H6 ⟨G6, b1, b2, b3, b4, b5⟩ => ?_
        · exact hUp c G4 G5 _ _ g5.g b
        · refine ⟨acc, b4, by omega, G6, acc ++ [v], ((a1.trans g4.g).trans g5.g).trans b1, fun b' o e => ?_, b3, upd_same, by rw [List.length_append, a5]; rfl, b5⟩
          rw [upd_ne (ne_of_none e b3)]
          exact b2 b' o e
      · rintro H ⟨G3, acc, a1, a2, a3, a4, _, a5⟩
        exact k D acc G3 H (g2.g.trans a1) a2 a3 a4 hD1 a5)
/-- for i in range(n), where n comes of a change -/
theorem ws_forR (j : Nat) {y : Str} {body : List Stmt} {G1 H1 : Hp} {D : Ends} (I : Nat → Nat → St → Hp → Hp → Prop) (hm : X.mg "range" = none)
    (h : WE X e σ H1 fun v H2 => ∃ n : Nat, v = .int (n : Int) ∧ (n : Int) < 2 ^ 62 ∧ ∃ G2, Same G1 G2 ∧ Same G2 H2 ∧ I n 0 σ G2 H2)
    (hs : ∀ n i σ1 G2 H2, i < n → Same G1 G2 → Same G2 H2 → I n i σ1 G2 H2 →
      WS X body { nx := fun σ' H' => ∃ G', Same G2 G' ∧ Same G' H' ∧ I n (i + 1) σ' G' H', rt := D.rt, ct := fun σ' H' => ∃ G', Same G2 G' ∧ Same G' H' ∧ I n (i + 1) σ' G' H', bk := fun σ' H' => WS X rest D σ' H' } (σ1.set j (some (.int (i : Int)))) H2)
    (k : ∀ n σ1 G2 H2, Same G1 G2 → Same G2 H2 → I n n σ1 G2 H2 → WS X rest D σ1 H2) (hN : X.N.Nodup) (hj : X.N[j]? = some y := by rfl) (hx : Loc X.env.scope y := by first | exact Or.inl rfl | exact Or.inr rfl) (hp : PassesOwn (model X.prog X.w) X.A X.env X.xe := by exact PassesOwn.never) (hc : X.calm = true := by rfl)
    (hg : Gl X "range" := by rfl) (hst : starEach [e] X.env = [(false, eval e X.env)] := by rfl) (hfn : X.fn y = true ∨ X.env.scope.names.lookup y = some .local := by first | exact .inl rfl | exact .inr rfl)
    (hso : ∀ x, foldedSetIterable (.Call (.Name "range" p) [e] [] q) X.env x = pure x := by intro _; rfl) : WS X (.For (.Name y px) (.Call (.Name "range" p) [e] [] q) body [] pos :: rest) D σ H1 :=
  WS.cons (ps_for hp hc (pi_range1 hg hm (pa_cons pe_we pa_nil hst) hst) (pg_name hN hj hx hfn) pss_ws hso) (WE.mono h fun v H2 ⟨n, e1, e2, G2, a1, a2, a3⟩ => by
    subst e1
    refine ⟨(n : Int), rfl, by omega, e2, ?_⟩
    rw [Int.toNat_natCast]
    exact for_it walk_range (fun i σ' H' => ∃ G3, Same G1 G3 ∧ Same G3 H' ∧ I n i σ' G3 H') ⟨G2, a1, a2, a3⟩ (fun _ _ _ _ _ => trivial)
      (fun i x σ' H' H'' hi ⟨G3, b1, b2, b3⟩ y => by
        obtain ⟨rfl, rfl⟩ := y
        have h := hs n i σ' G3 H'' hi b1 b2 b3
        have ez : (0 : Int) + (i : Int) = (i : Int) := Int.zero_add _
        show WS X body _ (σ'.set j (some (.int (0 + (i : Int))))) H''
        rw [ez]
        intro pins s Iv
        refine thn (h pins s Iv) fun f s' q => ?_
        match f, q with
        | .next, ⟨σ3, H3, I3, G5, c1, c2, c3⟩ => exact ⟨σ3, H3, I3, G5, b1.trans c1, c2, c3⟩
        | .cont, ⟨σ3, H3, I3, G5, c1, c2, c3⟩ => exact ⟨σ3, H3, I3, G5, b1.trans c1, c2, c3⟩
        | .brk, ⟨σ3, H3, I3, q⟩ => exact ⟨σ3, H3, I3, q⟩
        | .ret u, ⟨v, σ3, H3, I3, rv, q⟩ => exact ⟨v, σ3, H3, I3, rv, q⟩)
      fun σ' H' ⟨G3, b1, b2, b3⟩ => k n σ' G3 H' b1 b2 b3)
end
end D1

namespace D1
open PySem L2 Rp
/-- a mutable object beside what stands is written -/
theorem GrM.off {M : Addr → Prop} {G H G' H' : Hp} {p : Addr} {o : HO} (g : GrM M G H G' H') (hp : H p = none) (gp : G' p = none) : GrM M G H G' (upd H' p o) := by
  refine ⟨g.g, fun b u nm e => ?_, fun b u e => ?_, g.f, fun b n => upd_some (g.d b n)⟩
  · rw [upd_ne (ne_of_none e hp)]; exact g.h b u nm e
  · rw [upd_ne (ne_of_none e gp)]; exact g.s b u e
/-- a place itself -/
structure Adr where
  p : Addr
  deriving DecidableEq
instance : Rp Adr := ⟨fun _ v a => v = .ref a.p, fun _ h => h⟩
theorem refs_of : ∀ {H : Hp} {xs : List V} {l : List Adr}, Paired (rp H) xs l → xs = l.map fun a => V.ref a.p
  | _, _, _, .nil => rfl
  | _, _, _, .cons r t => by cases r; rw [refs_of t]; rfl
theorem refs_to {H : Hp} : ∀ l : List Adr, Paired (rp H) (l.map fun a => V.ref a.p) l
  | [] => .nil
  | a :: l => .cons rfl (refs_to l)
section
variable {α β γ δ : Type} [Rp α] [Rp β] [Rp γ] [Rp δ] {X : Cx} {a b c e tg : Expr} {σ : St} {G : Hp} {pos p q px : Pos} {rest : List Stmt}
theorem val_kv {G : Hp} {z : Str} : ∀ {kvs : List (Key × V)} {l : List (Str × β)}, Paired (KvR G) kvs l → (valV kvs (Sum.inr z)).isSome = decide (z ∈ l.map (·.1))
  | _, _, .nil => by simp [valV_nil]
  | kv :: kvs, q :: l, .cons r t => by
    by_cases e : q.1 = z
    · have e1 : kv.1 = Sum.inr z := by rw [r.1, e]
      rw [valV_pos e1, List.map_cons, e]
      exact (decide_eq_true List.mem_cons_self).symm
    · have e1 : ¬ kv.1 = Sum.inr z := fun h => e (Sum.inr.inj (r.1.symm.trans h))
      rw [valV_neg e1, val_kv t]
      have e2 : (z ∈ (q :: l).map (·.1)) ↔ z ∈ l.map (·.1) := by
        rw [List.map_cons, List.mem_cons]
        exact ⟨fun h => h.resolve_left fun h => e h.symm, .inr⟩
      rw [Bool.eq_iff_iff, decide_eq_true_eq, decide_eq_true_eq]
      exact e2.symm
/-- x in d -/
theorem ET.inDict {z : Str} {d : DctS β} (hu : X.A.units + 1 < cLine) (ha : Ev X a σ G z) (hb : Ev X b σ G d) (hm : behindInMarks .In b = false := by first | exact nobehind _ (by decide) (by decide) | rfl) : ET X (.Compare a [.In] [b] pos) σ G (decide (z ∈ d.kvs.map (·.1))) := fun G1 H1 Q s1 s2 k =>
  WT.of (pt_cmp (pc_din hu pe_we pe_we) hm) (ha G1 H1 _ s1 s2 fun G2 H2 v g r => hb G2 H2 _ (s1.trans g.g) g.s fun G3 H3 u g2 r2 => by
    cases r
    obtain ⟨q, kvs, rfl, h1, pr⟩ := r2
    refine ⟨q, _, rfl, DGet.k (k := Sum.inr z) (g2.s _ _ h1), _, rfl, ?_⟩
    rw [val_kv pr]
    exact k _ _ (g.trans g2))
/-- sorted(xs) of texts that come of a change -/
theorem we_sortedS {H : Hp} {Q : VK} (B : Bt X.mg) (h : WE X e σ H fun v H1 => ∃ G1, ∃ l : List Str, Same G1 H1 ∧ rp G1 v l ∧ l.length < 64 ∧ ∀ p, H1 p = none → Q (.ref p) (upd H1 p (.lst ((sortS l).map V.str)))) (hg : Gl X "sorted" := by rfl) (hs : starEach [e] X.env = (false, eval e X.env) :: starEach [] X.env := by rfl) (hpl : (backTo pos (starEach [] X.env)).any (·.1) = false := by rfl) : WE X (.Call (.Name "sorted" p) [e] [] pos) σ H Q :=
  WE.of (pe_callB cr_sortedS hg B.sorted boot_sorted' (pa_cons pe_we pa_nil hs) (by decide) (by decide) hs hpl) (WE.mono h fun v H1 ⟨G1, l, s, r, hl, kk⟩ => by
    obtain ⟨q, xs, rfl, h1, pr⟩ := r
    have e1 := strs_of pr
    subst e1
    refine ⟨q, l, rfl, SqL.of (s _ _ h1), hl, fun ys p' pm so hp => ?_⟩
    have e2 : ys = sortS l := (sortS_eq pm (sortedS_pw so)).symm
    subst e2
    exact kk p' hp)
/-- xs[:b] of what comes of a change -/
theorem we_slTo {i : Int} {p2 : Pos} {H : Hp} {Q : VK} (h : WE X a σ H fun v H1 => ∃ G1, ∃ l : List α, Same G1 H1 ∧ rp G1 v l ∧ Ev X b σ G1 i ∧ ∀ G2 H2 w, Gr G1 H1 G2 H2 → rp G2 w (cutL l none (some i)) → Q w H2) : WE X (.Subscript a (.Slice none (some b) none p2) pos) σ H Q :=
  WE.of (pe_slice sl_list pe_we po_none (po_some pe_we)) (WE.mono h fun v H1 ⟨G1, l, s, r, hb, kk⟩ => hb G1 H1 _ (Same.refl _) s fun G3 H3 u g2 r2 => ⟨i, r2, rSl_data g2.s (rup g2.g r) fun G4 H4 w g3 r3 => kk _ _ _ (g2.trans g3) r3⟩)
/-- text[i], where i comes of a change -/
theorem we_ixS {H : Hp} {Q : VK} {z : Str} {j} (h : WE X b σ H fun u H1 => ∃ i : Nat, ∃ c, u = .int (i : Int) ∧ z.length ≤ sizeLine ∧ atI z.cps.toList (i : Int) = some c ∧ Q (.str ⟨#[c]⟩) H1) (hs : PlainIx b := by exact fun _ _ => rfl) : WE X (.Subscript (.Constant (.str z) j p) b pos) σ H Q :=
  WE.of (pe_ix ix_str pe_str pe_we hs) (WE.mono h fun u H1 ⟨i, c, e1, e2, e3, e4⟩ => ⟨z, _, c, rfl, e1, e2, e3, e4⟩)
/-- dict([]) -/
theorem we_dict0 {H : Hp} {Q : VK} {lp : Pos} (B : Bt X.mg) (k : ∀ l p, H l = none → H p = none → l ≠ p → Q (.ref p) (upd (upd H l (.lst [])) p (.dK []))) (hc : X.calm = true := by rfl) (hg : Gl X "dict" := by rfl) (hs : starEach [.List [] lp] X.env = (false, eval (.List [] lp) X.env) :: starEach [] X.env := by rfl) (hpl : (backTo pos (starEach [] X.env)).any (·.1) = false := by rfl) :
    WE X (.Call (.Name "dict" p) [.List [] lp] [] pos) σ H Q :=
  WE.of (pe_callTy (call_dictP hc) hg B.dict boot_dict' (pa_cons (pe_lst pa_nil) pa_nil hs) (by decide) (by decide) hs hpl) ⟨small_sz, fun l hl => ⟨l, [], [], rfl, SqL.of upd_same, .nil, fun p hp => by
    have hlp : l ≠ p := fun e => by subst e; rw [upd_same] at hp; cases hp
    rw [upd_ne (Ne.symm hlp)] at hp
    exact k l p hl hp hlp⟩⟩
end
end D1

namespace D1
open PySem L2 Rp
section
variable {α β γ δ : Type} [Rp α] [Rp β] [Rp γ] [Rp δ] {X : Cx} {a b c e tg : Expr} {σ : St} {G : Hp} {pos p q px : Pos} {rest : List Stmt}
/-- [elt for target in iter], where elt may write: I by the new list's place, the turn, what is in the list -/
theorem tlc_I {elt iter : Expr} {scope : Scope} {own : List (Str × Nat)} {l : List γ} {g : TG} {B : γ → Hp → St → St → Prop} {G1 H1 : Hp} {Q : VK} (I : Addr → Nat → List V → Hp → Hp → Prop) (s1 : Same G G1) (s2 : Same G1 H1)
    (hi : EI X tg iter σ G l) (hB : TgB g B) (hg : ∀ (s : Shared) (H : Hp) (C : Addr) (cl : List (Str × Addr)) (fp : List Addr), PG (BK X s H scope C cl fp) tg g)
    (h0 : ∀ G2 H2 D, Gr G1 H1 G2 H2 → H2 D = none → I D 0 [] G2 (upd H2 D (.lst [])))
    (he : ∀ D i c acc G2 H2, l[i]? = some c → Same G1 G2 → Same G2 H2 → G2 D = none → H2 D = some (.lst acc) → acc.length = i → H1 D = none → I D i acc G2 H2 → ∀ G3 H3 σ', Gr G2 H2 G3 H3 → B c G3 (wipe σ (own.map (·.2))) σ' → ∀ s H C cl fp,
      WE (BK X s H scope C cl fp) elt σ' H3 fun v H4 => ∃ G4, Same G3 G4 ∧ Same G4 H4 ∧ G4 D = none ∧ H4 D = some (.lst acc) ∧ I D (i + 1) (acc ++ [v]) G4 (upd H4 D (.lst (acc ++ [v]))))
    (k : ∀ D acc G2 H2, Same G1 G2 → Same G2 H2 → G2 D = none → H2 D = some (.lst acc) → H1 D = none → I D l.length acc G2 H2 → Q (.ref D) H2)
    (hw : ∀ c G' σ', B c G' (wipe σ (own.map (·.2))) σ' → wipe σ' (own.map (·.2)) = wipe σ (own.map (·.2))) (hUp : ∀ c G' G'' σ1 σ', Same G' G'' → B c G' σ1 σ' → B c G'' σ1 σ')
    (hz : l.length < sizeLine) :
    tLc (WI X tg iter) g (ATs X scope []) (AE X scope elt) (own.map (·.2)) σ H1 Q :=
    (hi G1 H1 _ s1 s2 fun J S Y G2 H2 g2 w hS hY D hD => by
      have gD : G2 D = none := g2.s.free hD
      have hD1 : H1 D = none := by
        cases e : H1 D with
        | none => rfl
        | some o => exact absurd hD (g2.d D (by rw [e]; exact fun z => nomatch z))
      refine lc_it (Qd := fun H => Q (.ref D) H) w (fun i H => ∃ G3 acc, Same G2 G3 ∧ Same G3 H ∧ G3 D = none ∧ H D = some (.lst acc) ∧ acc.length = i ∧ I D i acc G3 H) ?_ ?_ ?_ ?_
      · exact ⟨G2, [], Same.refl _, fun b o e => by rw [upd_ne (ne_of_none e gD)]; exact g2.s b o e, gD, upd_same, rfl, h0 G2 H2 D g2 hD⟩
      · rintro i H _ ⟨G3, acc, a1, a2, _⟩
        exact hS H (a1.trans a2)
      · rintro i x H H' hi' ⟨G3, acc, a1, a2, a3, a4, a5, a6⟩ y
        obtain ⟨c, G4, hc', g4, r⟩ := hY i H x H' hi' y G3 a1 a2
        refine hB c G4 H' x _ _ g4.s r fun σ' b => ⟨hw c G4 σ' b, ?_⟩
        intro s0 H0 C cl fp
        refine ETs.nil (X := BK X s0 H0 scope C cl fp) G4 H' _ (Same.refl _) g4.s fun G5 H5 g5 => ?_
        rw [if_pos rfl]
        intro s0 H0 C cl fp
        refine WE.mono (he D i c acc G3 H hc' (g2.g.trans a1) a2 a3 a4 a5 hD1 a6 G5 H5 σ' (g4.trans g5) ?_ s0 H0 C cl fp) fun v H6 ⟨G6, b1, b2, b3, b4, b5⟩ => ?_
        · exact hUp c G4 G5 _ _ g5.g b
        · refine ⟨acc, b4, by omega, G6, acc ++ [v], ((a1.trans g4.g).trans g5.g).trans b1, fun b' o e => ?_, b3, upd_same, by rw [List.length_append, a5]; rfl, b5⟩
          rw [upd_ne (ne_of_none e b3)]
          exact b2 b' o e
      · rintro H ⟨G3, acc, a1, a2, a3, a4, _, a5⟩
        exact k D acc G3 H (g2.g.trans a1) a2 a3 a4 hD1 a5)
/-- y = [elt for target in iter], elt may write, y a plain local name -/
theorem ws_setLcI (j : Nat) {y : Str} {py spos : Pos} {D : Ends} {elt iter : Expr} {scope : Scope} {own : List (Str × Nat)} {g : TG} {H : Hp} (hg : ∀ (s : Shared) (H : Hp) (C : Addr) (cl : List (Str × Addr)) (fp : List Addr), PG (BK X s H scope C cl fp) tg g)
    (h : tLc (WI X tg iter) g (ATs X scope []) (AE X scope elt) (own.map (·.2)) σ H fun v H1 => WS X rest D (σ.set j (some v)) H1) (hN : X.N.Nodup) (ok : BlkOk X.N X.env.scope scope own)
    (hsw : swapsWith (.ListComp elt [⟨tg, iter, [], 0⟩] scope pos) (some (.Name y py)) spos.line X.env = pure true := by rfl) (hc : X.calm = true := by rfl) (hy : X.N[j]? = some y := by rfl) (hyl : X.env.scope.names.lookup y = some .local := by rfl) (hs : ∀ x, foldedSetIterable iter X.env x = pure x := by intro _; rfl) :
    WS X (.Assign [.Name y py] (.ListComp elt [⟨tg, iter, [], 0⟩] scope pos) spos :: rest) D σ H :=
  WS.cons (ps_setLc (tt := ATs X scope []) (te := AE X scope elt) hc hN hy hyl hsw pi_wi ok hg (fun s H C cl fp => ⟨fun pins s1 σ' H' Q' I h => h s H C cl fp pins s1 I⟩) (fun s H C cl fp => ⟨fun pins s1 σ' H' Q' I h => h s H C cl fp pins s1 I⟩) hs) h
/-- for x in xs, where xs comes of a change -/
theorem ws_forL (j : Nat) {y : Str} {iter : Expr} {body : List Stmt} {G1 H1 : Hp} {D : Ends} (I : List γ → Nat → St → Hp → Hp → Prop)
    (h : WE X iter σ H1 fun v H2 => ∃ (l : List γ) (G2 : Hp), Same G1 G2 ∧ Same G2 H2 ∧ rp G2 v l ∧ I l 0 σ G2 H2)
    (hs : ∀ l i c σ1 G2 H2 v, l[i]? = some c → Same G1 G2 → Same G2 H2 → rp G2 v c → I l i σ1 G2 H2 →
      WS X body { nx := fun σ' H' => ∃ G', Same G2 G' ∧ Same G' H' ∧ I l (i + 1) σ' G' H', rt := D.rt, ct := fun σ' H' => ∃ G', Same G2 G' ∧ Same G' H' ∧ I l (i + 1) σ' G' H', bk := fun σ' H' => WS X rest D σ' H' } (σ1.set j (some v)) H2)
    (k : ∀ l σ1 G2 H2, Same G1 G2 → Same G2 H2 → I l l.length σ1 G2 H2 → WS X rest D σ1 H2) (hN : X.N.Nodup) (hj : X.N[j]? = some y := by rfl) (hx : Loc X.env.scope y := by first | exact Or.inl rfl | exact Or.inr rfl) (hp : PassesOwn (model X.prog X.w) X.A X.env X.xe := by exact PassesOwn.never) (hc : X.calm = true := by rfl)
    (hfn : X.fn y = true ∨ X.env.scope.names.lookup y = some .local := by first | exact .inl rfl | exact .inr rfl) (hso : ∀ x, foldedSetIterable iter X.env x = pure x := by intro _; rfl) : WS X (.For (.Name y px) iter body [] pos :: rest) D σ H1 :=
  WS.cons (ps_for hp hc (pi_list pe_we) (pg_name hN hj hx hfn) pss_ws hso) (WE.mono h fun v H2 ⟨l, G2, a1, a2, r, a3⟩ => by
    obtain ⟨q, xs, rfl, h1, pr⟩ := r
    have hl := pr.length
    refine ⟨q, rfl, ⟨xs, SqL.of (a2 _ _ h1)⟩, ?_⟩
    have w : Walk (Itl X.K q) l.length (fun H => SqL X.K H q xs) (YAt xs) := by rw [← hl]; exact walk_list
    exact for_it w (fun i σ' H' => ∃ G3, Same G2 G3 ∧ Same G3 H' ∧ I l i σ' G3 H') ⟨G2, Same.refl _, a2, a3⟩ (fun i σ' H' _ ⟨G3, b1, b2, b3⟩ => SqL.of (b2 _ _ (b1 _ _ h1)))
      (fun i x σ' H' H'' hi ⟨G3, b1, b2, b3⟩ y => by
        obtain ⟨rfl, y⟩ := y
        obtain ⟨d, e1, e2⟩ := paired_at pr y
        have h := hs l i d σ' G3 H'' x e1 (a1.trans b1) b2 (rup b1 e2) b3
        show WS X body _ (σ'.set j (some x)) H''
        intro pins s Iv
        refine thn (h pins s Iv) fun f s' q => ?_
        match f, q with
        | .next, ⟨σ3, H3, I3, G5, c1, c2, c3⟩ => exact ⟨σ3, H3, I3, G5, b1.trans c1, c2, c3⟩
        | .cont, ⟨σ3, H3, I3, G5, c1, c2, c3⟩ => exact ⟨σ3, H3, I3, G5, b1.trans c1, c2, c3⟩
        | .brk, ⟨σ3, H3, I3, q⟩ => exact ⟨σ3, H3, I3, q⟩
        | .ret u, ⟨v, σ3, H3, I3, rv, q⟩ => exact ⟨v, σ3, H3, I3, rv, q⟩)
      fun σ' H' ⟨G3, b1, b2, b3⟩ => k l σ' G3 H' (a1.trans b1) b2 b3)
theorem ws_asg3 (i j l : Nat) {G1 H1 : Hp} {D : Ends} {x y z : Str} {px py pz pt : Pos} {kt} {t : T3 α β γ} (s1 : Same G G1) (s2 : Same G1 H1) (h : Ev X e σ G t) (k : ∀ G2 H2 u w z, Gr G1 H1 G2 H2 → rp G2 u t.a → rp G2 w t.b → rp G2 z t.c → WS X rest D (((σ.set i (some u)).set j (some w)).set l (some z)) H2)
    (hN : X.N.Nodup) (hc : X.calm = true := by rfl) (hi : X.N[i]? = some x := by rfl) (hj : X.N[j]? = some y := by rfl) (hl : X.N[l]? = some z := by rfl) (hx : Loc X.env.scope x := by first | exact Or.inl rfl | exact Or.inr rfl) (hy : Loc X.env.scope y := by first | exact Or.inl rfl | exact Or.inr rfl) (hz : Loc X.env.scope z := by first | exact Or.inl rfl | exact Or.inr rfl)
    (fx : X.fn x = true ∨ X.env.scope.names.lookup x = some .local := by first | exact .inl rfl | exact .inr rfl) (fy : X.fn y = true ∨ X.env.scope.names.lookup y = some .local := by first | exact .inl rfl | exact .inr rfl) (fz : X.fn z = true ∨ X.env.scope.names.lookup z = some .local := by first | exact .inl rfl | exact .inr rfl)
    (h1 : (assignEach [.Name x px, .Name y py, .Name z pz] X.env).map (·.2) = assign (.Name x px) X.env :: (assignEach [.Name y py, .Name z pz] X.env).map (·.2) := by rfl) (h2 : (assignEach [.Name y py, .Name z pz] X.env).map (·.2) = assign (.Name y py) X.env :: (assignEach [.Name z pz] X.env).map (·.2) := by rfl)
    (h3 : (assignEach [.Name z pz] X.env).map (·.2) = assign (.Name z pz) X.env :: (assignEach [] X.env).map (·.2) := by rfl)
    (hn : (assignEach [.Name x px, .Name y py, .Name z pz] X.env).length = 3 := by rfl) (hst : (assignEach [.Name x px, .Name y py, .Name z pz] X.env).findIdx? (·.1) = none := by rfl)
    (hs : swapsWithSole [.Tuple [.Name x px, .Name y py, .Name z pz] kt pt] e pos.line X.env = pure false := by rfl) (hw : swappedStores [.Tuple [.Name x px, .Name y py, .Name z pz] kt pt] e X.env = pure none := by rfl) (ha : (assignEach [.Tuple [.Name x px, .Name y py, .Name z pz] kt pt] X.env).map (·.2) = [assign (.Tuple [.Name x px, .Name y py, .Name z pz] kt pt) X.env] := by rfl) :
    WS X (.Assign [.Tuple [.Name x px, .Name y py, .Name z pz] kt pt] e pos :: rest) D σ H1 :=
  WS.cons (ps_asg pe_we (pg_three hc hN hi hj hl hx hy hz fx fy fz h1 h2 h3 hn hst) hs hw ha) (h G1 H1 _ s1 s2 fun G2 H2 v g r => g_three g.s r fun u w z r1 r2 r3 => k G2 H2 u w z g r1 r2 r3)
/-! ### conditions with changes -/
theorem wt_not {H : Hp} {Q : Bool → Hp → Prop} (h : WT X e σ H fun b H1 => Q (!b) H1) : WT X (.UnaryOp .Not e pos) σ H Q := WT.of (pt_not pt_wt) h
theorem wt_val {H : Hp} {Q : Bool → Hp → Prop} (h : WE X e σ H fun v H1 => ∃ z, v = .bl z ∧ Q z H1) (he : ∀ whole, isTrue e X.env whole = (do let v ← whole; standAt e.pos; holding [v] (truthy v)) := by intro _; rfl) : WT X e σ H Q :=
  WT.of (pt_val pe_we he) (WE.mono h fun v H1 ⟨z, e1, q⟩ => ⟨z, e1, q⟩)
theorem wt_or2 {H : Hp} {Q : Bool → Hp → Prop} (h : WT X a σ H fun y H1 => if y = true then Q true H1 else WT X b σ H1 Q) : WT X (.BoolOp .Or [a, b] pos) σ H Q := fun pins s I => WW.of (pw_or pt_wt (pw_or1 pt_wt)) h _ pins s I
/-! ### the script: a list that is tracked, frozen or the module's -/
structure Scr (K : PySem.W.Frag) where
  l : List Int
instance {K : PySem.W.Frag} : Rp (Scr K) := ⟨fun H v t => ∃ p, v = .ref p ∧ SqL K H p (t.l.map V.int), fun s ⟨p, e, h⟩ => ⟨p, e, s.seq h⟩⟩
theorem Ev.lenQ {t : Scr X.K} (B : Bt X.mg) (h : Ev X e σ G t) (hg : Gl X "len" := by rfl) (hs : starEach [e] X.env = (false, eval e X.env) :: starEach [] X.env := by rfl) (hpl : (backTo pos (starEach [] X.env)).any (·.1) = false := by rfl) : Ev X (.Call (.Name "len" p) [e] [] pos) σ G ((t.l.length : Nat) : Int) :=
  Ev.b1 call_len boot_len' (fun G H v Q s r k => by
    obtain ⟨q, rfl, h1⟩ := r
    exact ⟨_, t.l.length, rfl, .inl ⟨_, s.seq h1, by simp⟩, k _ _ _ (GrM.refl s) rfl⟩) B.len h hg (by decide) (by decide) hs hpl
theorem Ev.sl2Q {t : Scr X.K} {i j : Int} {p2 : Pos} (h : Ev X e σ G t) (ha : Ev X a σ G i) (hb : Ev X b σ G j) : Ev X (.Subscript e (.Slice (some a) (some b) none p2) pos) σ G (cutL t.l (some i) (some j)) := fun G1 H1 Q s1 s2 k =>
  WE.of (pe_slice sl_list pe_we (po_some pe_we) (po_some pe_we)) (h G1 H1 _ s1 s2 fun G2 H2 v g r => ha G2 H2 _ (s1.trans g.g) g.s fun G3 H3 u g2 r2 => ⟨i, r2, hb G3 H3 _ (s1.trans (g.trans g2).g) g2.s fun G4 H4 u2 g3 r3 => ⟨j, r3, by
    obtain ⟨q, rfl, h1⟩ := rup (g2.trans g3).g r
    refine ⟨q, _, rfl, g3.s.seq h1, fun p hp => ?_⟩
    have g4 := Gr.new (o := .lst (cutV (t.l.map V.int) (some i) (some j))) g3.s hp
    refine k _ _ _ (((g.trans g2).trans g3).trans g4) ⟨p, _, rfl, upd_same, ?_⟩
    have e1 : cutV (t.l.map V.int) (some i) (some j) = (cutL t.l (some i) (some j)).map V.int := by
      unfold cutV cutL
      rw [List.length_map, List.map_take, List.map_drop]
    rw [e1]
    exact ints_to _⟩⟩)
end
end D1

namespace D1
open PySem PySem.Spec L2 Rp PyProof.Rows
/-! ### defs that are called while nothing is being shown: what repr tells of lists and tuples is known there alone -/
structure FnG (P : Program) (w : World) (K : PySem.W.Frag) (mg : Str → Option Value) (base : Heap) (k : Nat) (f : Addr) (fd : FuncData) (ps : List Str) (sp : Sp) : Prop where
  len : ∀ (ys : List V) (I : Hp) (R : VK) (Z : XK), sp ys I R Z → ys.length = ps.length
  run : ∀ (B : Around) (out : List Env) (t : Shared) (I : Hp) (as : Args) (xs : List Value) (ys : List V) (R : VK) (Z : XK), B.guards = some [] → Room k B → Env0 P w K mg base B out t I → BindsTo t fd as (ps.zip xs) → Vals ys xs → sp ys I R Z →
    codeAny (model P w) B (.call (.ref f) as) (CR C8.CX0 out P w I t R Z) t
section
variable {P : Program} {w : World} {K : PySem.W.Frag} {mg : Str → Option Value} {base : Heap}
/-- by its body -/
theorem FnG.of {x qual : Str} {st : Stmt} {f : Addr} {fd : FuncData} {N ps : List Str} {k : Nat} {sp : Sp} (F : C8.Fun K x qual st f fd) (S : FnScope N ps (C8.fnScope st)) (hl : ∀ (ys : List V) (I : Hp) (R : VK) (Z : XK), sp ys I R Z → ys.length = ps.length)
    (body : ∀ (cdv : Value) (B : Around) (out : List Env) (t : Shared) (I : Hp) (ys : List V) (R : VK) (Z : XK), B.guards = some [] → Room k (B.deeper (envOfC qual (C8.fnScope st) t.heap.objs.size f cdv)) → sp ys I R Z →
      WS (cxOf C8.CX0 P w K mg base N qual (C8.fnScope st) f cdv B out t I Z).nox (C8.fnBody st) { nx := fun _ J => R .non J, rt := R } (start N ys) I) : FnG P w K mg base (k + 1) f fd ps sp := by
  obtain ⟨c1, c2, c3, c4, c5, c6, c7, cdv, c8, c9, rfl, look, code⟩ := F.ex
  refine ⟨hl, fun B out t I as xs ys R Z noG room e0 bind rel ask => ?_⟩
  have inK : K.In t.heap := e0.mod.kin.keeps fun b o e => (e0.bs b o e).1
  have noL : t.heap.NoLimit := e0.mod.nolimit.keeps fun b o e => (e0.bs b o e).1
  refine codeAny_call_function room.depth (inK _ _ look) rfl S.co S.gen rfl (PySem.W.codeRec_of inK code) (bind _ _ _ _ ?_)
  refine wpAny_newFunctionEnv_cells S.kind (fun y hy => ?_) fun env same t1 st1 => ?_
  · obtain ⟨n, v⟩ := y
    rcases S.par n (List.of_mem_zip hy).1 with here | here
    · exact Or.inl here
    · exact Or.inr ⟨here, PySem.W.cellsFrom_some _ _ _ (Or.inl here)⟩
  · subst same
    have inv : Inv (cxOf C8.CX0 P w K mg base N qual (C8.fnScope st) f cdv B out t I Z) [] (start N ys) I t1 := inv_start S room.hd e0 (hl _ _ _ _ ask) rel st1
    have run := (pss_ws.nox (X := cxOf C8.CX0 P w K mg base N qual (C8.fnScope st) f cdv B out t I Z)).run [] t1 (start N ys) I _ inv (body cdv B out t I ys R Z noG (room.deeper _) ask)
    refine ⟨noL.keeps st1.toInCall.keep, codeAny_func (wpAny_mono run (fun fl t2 ends => ?_) fun _ _ h => h)⟩
    have close : ∀ {σ2 : L2.St} {J : Hp} {v : V} {u : Value}, Inv (cxOf C8.CX0 P w K mg base N qual (C8.fnScope st) f cdv B out t I Z) [] σ2 J t2 → RelV v u → R v J → CE out P w I t R u t2 := fun {σ2 J v u} j rv q => ⟨v, J, j.os, j.bare, j.base, j.hok, rv, q⟩
    match fl, ends with
    | .ret u, ⟨v, σ2, J, j, rv, q⟩ => exact close j rv q
    | .next, ⟨σ2, J, j, q⟩ => exact close (v := V.non) (u := Value.none) j rfl q
    | .brk, ⟨_, _, _, q⟩ => exact q.elim
    | .cont, ⟨_, _, _, q⟩ => exact q.elim
theorem FnG.mono {f : Addr} {fd : FuncData} {ps : List Str} {j k : Nat} {sp : Sp} (F : FnG P w K mg base j f fd ps sp) (h : j ≤ k) : FnG P w K mg base k f fd ps sp := ⟨F.len, fun B out t I as xs ys R Z g r => F.run B out t I as xs ys R Z g (r.mono h)⟩
/-- a def that may be called by its name -/
structure CalG (P : Program) (w : World) (K : PySem.W.Frag) (mg : Str → Option Value) (base : Heap) (k : Nat) (x : Str) (sp : Sp) : Prop where
  ex : ∃ (f : Addr) (fd : FuncData) (ps : List Str), FnG P w K mg base k f fd ps sp ∧ mg x = some (.ref f) ∧ PySem.W.keepIn K (.ref f) = true ∧ Binds K fd ps []
theorem CalG.of {x : Str} {st : Stmt} {f : Addr} {fd : FuncData} {N ps : List Str} {k : Nat} {sp : Sp} (D : C8.Def K mg x st f fd) (b : Binds K fd ps []) (S : FnScope N ps (C8.fnScope st)) (hl : ∀ (ys : List V) (I : Hp) (R : VK) (Z : XK), sp ys I R Z → ys.length = ps.length)
    (body : ∀ (cdv : Value) (B : Around) (out : List Env) (t : Shared) (I : Hp) (ys : List V) (R : VK) (Z : XK), B.guards = some [] → Room k (B.deeper (envOfC x (C8.fnScope st) t.heap.objs.size f cdv)) → sp ys I R Z →
      WS (cxOf C8.CX0 P w K mg base N x (C8.fnScope st) f cdv B out t I Z).nox (C8.fnBody st) { nx := fun _ J => R .non J, rt := R } (start N ys) I) : CalG P w K mg base (k + 1) x sp := ⟨f, fd, ps, FnG.of D.fn S hl body, D.mgf, D.kp, b⟩
end
section
variable {X : Cx} {x : Str} {k j : Nat} {e : Expr} {es : List Expr} {t : TA} {p pos : Pos} {sp : Sp}
/-- x(e, ..) -/
theorem pe_cG (c : CalG X.prog X.w X.K X.mg X.base k x sp) (noG : X.A.guards = some []) (room : Room j X.A) (le : k ≤ j) (hg : Gl X x) (args : PA X (e :: es) t)
    (nd : (x == ("__debug__" : Str)) = false := by decide) (st : starEach (e :: es) X.env = (false, eval e X.env) :: starEach es X.env := by rfl) (pl : (backTo pos (starEach es X.env)).any (·.1) = false := by rfl) : PE X (.Call (.Name x p) (e :: es) [] pos) (tCall sp [] C8.E0 t) := by
  obtain ⟨f, fd, ps, F, named, kept, b⟩ := c.ex
  refine ⟨fun pins s0 σ I R inv ask => wpAny_Call_Name_kw (ld_glob inv hg named ?_ nd)⟩
  refine PySem.W.callWith_K (h₀ := X.base) inv.ok.mod.kin kept (thn (args.run pos pins s0 σ I _ inv ask) fun xs s1 h1 => ?_) st pl
  obtain ⟨ys, J, inv1, rel, q⟩ := h1
  refine ⟨inv1.kIn, ?_⟩
  have q' : sp ys J R C8.E0 := by
    have h : sp (ys ++ []) J R C8.E0 := q
    rwa [List.append_nil] at h
  have hlen : xs.length = ps.length := by rw [← rel.length]; exact F.len _ _ _ _ q'
  have hb := b s1 xs inv1.kIn (by rw [List.append_nil]; exact hlen)
  rw [List.append_nil] at hb
  refine wpAny_call (codeAny_mono (F.run X.A X.stack s1 J ⟨xs, []⟩ xs ys R C8.E0 noG (room.mono le) inv1.env0 hb rel q') fun res s2 done => ?_)
  match res, done with
  | .error er, h => exact (show False from h).elim
  | .ok (.ret u), h => exact inv1.after h
  | .ok .next, h => exact (show False from h).elim
  | .ok .brk, h => exact (show False from h).elim
  | .ok .cont, h => exact (show False from h).elim
end
end D1

namespace D1
open PySem L2 Rp Da
/-! ### repr of data, where nothing is being shown -/
def showD {α : Type} [Rp α] [Da α] (a : α) : Str := (toD a).shown
def rShow (α : Type) [Rp α] [Da α] : List V → Hp → VK → Prop := fun vs H Q => ∃ G v, ∃ d : α, vs = [v] ∧ Same G H ∧ rp G v d ∧ lay d ∧ (toD d).showable = true ∧ (showD d).length ≤ sizeLine ∧ Q (.str (showD d)) H
section
variable {α : Type} [Rp α] [Da α] {X : Cx} {e : Expr} {σ : St} {G : Hp} {p pos : Pos}
theorem cr_show (noG : X.A.guards = some []) (hu : X.A.units + (dep α + 1) < cLine) (hd : ∀ a : α, (∃ xs, toD a = .list xs) ∨ (∃ xs, toD a = .tuple xs) ∨ ∃ z, toD a = .str z) : CallR X (.builtin "repr") (rShow α) := by
  intro pins s σ H vs us Q I r h
  obtain ⟨G, v, d, rfl, sG, rd, ld, sh, hz, q⟩ := h
  obtain ⟨u, rfl, ru⟩ := vals1 r
  obtain ⟨as, rs⟩ := Dp.reads I (toD d) v u (dp (rup sG rd)) ru
  have nod : (toD d).hasDict = true → sysModules ∉ as := fun hh => by rw [PyData.hasDict_of_canLay _ (can d ld)] at hh; cases hh
  have hdep := dpt d
  have fin : ∀ {h' : Heap} (t : Tok) (tk : Nat), (∀ b o, s.heap.get? b = some o → h'.get? b = some o) → EP X pins σ Q (.str (toD d).shown t) { s with heap := h', toks := tk } := fun t tk k => ⟨.str (showD d), H, I.kept k, ⟨t, rfl⟩, q⟩
  rcases hd d with ⟨xs, ed⟩ | ⟨xs, ed⟩ | ⟨z, ed⟩
  · have rs2 := rs
    rw [ed] at rs2
    cases rs2
    exact PySem.repr_of_reads' rs sh nod noG (by omega) (fun _ _ e => e) (fun h' t tk k => fin t tk k) hz
  · have rs2 := rs
    rw [ed] at rs2
    cases rs2
    exact PySem.repr_of_reads' rs sh nod noG (by omega) (fun _ _ e => e) (fun h' t tk k => fin t tk k) hz
  · have hz2 : (reprText z).length ≤ sizeLine := by
      unfold showD at hz
      rw [ed] at hz
      simpa only [PyData.shown] using hz
    have f2 := fin (h' := s.heap) s.toks (s.toks + 1) (fun _ _ e => e)
    have rs2 := rs
    rw [ed] at rs2 f2
    cases rs2
    simp only [PyData.shown] at f2
    exact PySem.P.repr_of_str f2 hz2
theorem Ev.repr {d : α} (noG : X.A.guards = some []) (hu : X.A.units + 64 < cLine) (hm : X.mg "repr" = none) (h : Ev X e σ G d) (ld : lay d) (sh : (toD d).showable = true) (hz : (showD d).length ≤ sizeLine) (hd : ∀ a : α, (∃ xs, toD a = .list xs) ∨ (∃ xs, toD a = .tuple xs) ∨ ∃ z, toD a = .str z) (h62 : dep α ≤ 62 := by decide)
    (hg : Gl X "repr" := by rfl) (hs : starEach [e] X.env = (false, eval e X.env) :: starEach [] X.env := by rfl) (hpl : (backTo pos (starEach [] X.env)).any (·.1) = false := by rfl) : Ev X (.Call (.Name "repr" p) [e] [] pos) σ G (showD d) :=
  Ev.b1 (cr_show noG (by omega) hd) (by decide +kernel) (fun G H v Q s r k => ⟨G, v, d, rfl, s, r, ld, sh, hz, k _ _ _ (GrM.refl s) rfl⟩) hm h hg (by decide) (by decide) hs hpl
end
end D1

namespace D1
open PySem PySem.Spec L2 Rp PyProof.Rows
/-! ### the end, for a law of the kind FnG -/
abbrev LstO (vs : List Value) : Obj := { cls := .type "list", data := .seq vs.toArray }
/-- the heap ahead of the law: the script alone, unless it is the module's -/
def scrH (K : PySem.W.Frag) (a : Addr) (vs : List Value) (ns : List Int) : Hp := fun b => if b = a ∧ K.lookup a = none then some (.frz (LstO vs) (.lst (ns.map V.int))) else none
section
variable {K : PySem.W.Frag} {a : Addr} {vs : List Value} {ns : List Int}
theorem scrH_at {b : Addr} (h : ¬ scrH K a vs ns b = none) : b = a ∧ K.lookup a = none := by
  unfold scrH at h
  split at h
  · assumption
  · exact absurd rfl h
theorem scrH_some {b : Addr} {u : HO} (h : scrH K a vs ns b = some u) : b = a ∧ K.lookup a = none ∧ u = .frz (LstO vs) (.lst (ns.map V.int)) := by
  have h1 := scrH_at (K := K) (a := a) (vs := vs) (ns := ns) (b := b) (by rw [h]; exact fun z => nomatch z)
  unfold scrH at h
  rw [if_pos h1] at h
  exact ⟨h1.1, h1.2, (Option.some.inj h).symm⟩
theorem scrH_seq {hp : Heap} (inK : K.In hp) (at_ : hp.get? a = some (LstO vs)) (len : ns.length ≤ sizeLine) (are : IntsAre vs ns) : SqL K (scrH K a vs ns) a (ns.map V.int) := by
  cases e : K.lookup a with
  | none => exact Or.inl (Or.inr ⟨LstO vs, if_pos ⟨rfl, e⟩⟩)
  | some o =>
    have h := inK a o e
    rw [at_] at h
    cases h
    refine Or.inr ⟨_, vs.toArray, _, e, rfl, rfl, rfl, ?_, ?_⟩
    · rw [List.size_toArray, are.length]; exact len
    · have := vals_ints are
      simpa using this
/-- what is not the script's stays below the law -/
theorem below_at {hp : Heap} (at_ : hp.get? a = some (LstO vs)) {b : Addr} {o : Obj} (hb : hp.get? b = some o) (hne : ∀ w n, o.data ≠ .seq w n) : (hidT hp (scrH K a vs ns)).get? b = some o := by
  refine hidT_get hb ?_
  cases e : scrH K a vs ns b with
  | none => rfl
  | some u =>
    obtain ⟨rfl, _, _⟩ := scrH_some e
    rw [at_] at hb
    cases hb
    exact absurd rfl (hne _ _)
theorem below_ns {hp : Heap} (at_ : hp.get? a = some (LstO vs)) {b : Addr} {m : Str → Option Value} (h : hp.Ns b m) : (hidT hp (scrH K a vs ns)).Ns b m := by
  obtain ⟨o, es, ep, h1, h2, h3⟩ := h
  exact ⟨o, es, ep, below_at at_ h1 (fun w n h => by rw [h2] at h; cases h), h2, h3⟩
theorem below_K {hp : Heap} (inK : K.In hp) : K.In (hidT hp (scrH K a vs ns)) := fun b o e => hidT_get (inK b o e) (by
  cases q : scrH K a vs ns b with
  | none => rfl
  | some u =>
    obtain ⟨rfl, h2, _⟩ := scrH_some q
    rw [h2] at e
    cases e)
end
theorem law_callG {P : Program} {w : World} {K : PySem.W.Frag} {mg mb : Str → Option Value} {k : Nat} {fa a : Addr} {fd : FuncData} {x : Str} {sp : Sp} {t : Shared} {vs : List Value} {ns : List Int} (inK : K.In t.heap) (gl : t.heap.Ns mainGlobals mg) (bl : t.heap.Ns builtinsNs mb) (bb : ∀ x : Str, x ≠ "__name__" → mb x = bootBuiltins x)
    (noL : t.heap.NoLimit) (noGen : t.gens = #[]) (at_ : t.heap.get? a = some (LstO vs)) (are : IntsAre vs ns) (len : ns.length ≤ sizeLine) (room : Room k callerA) (F : ∀ base : Heap, K.In base → base.Ns mainGlobals mg → FnG P w K mg base k fa fd [x] sp) (bind : ∀ (s : Shared) (u : Value), BindsTo s fd ⟨[u], []⟩ [(x, u)])
    (ask : ∀ H : Hp, SqL K H a (ns.map V.int) → sp [.ref a] H (fun v _ => v = .bl true) C8.E0) : codeAny (model P w) callerA (.call (.ref fa) ⟨[.ref a], []⟩) (fun r t' => r = .ok (.ret (.bool true)) ∧ OldK t.heap t'.heap ∧ t'.os = t.os ∧ AllBare t'.gens) t := by
  have okH : HOk P w (scrH K a vs ns) t.heap := fun b u e => by
    obtain ⟨rfl, _, rfl⟩ := scrH_some e
    exact ⟨at_, by rw [List.length_map]; exact len, vs, _, vals_ints are, at_⟩
  have md : Mod K mg (hidT t.heap (scrH K a vs ns)) := ⟨below_K inK, below_ns at_ gl, ⟨mb, below_ns at_ bl, bb⟩, by obtain ⟨mc, h1, h2⟩ := noL; exact ⟨mc, below_ns at_ h1, h2⟩⟩
  have env : Env0 P w K mg (hidT t.heap (scrH K a vs ns)) callerA [] t (scrH K a vs ns) := ⟨rfl, md, fun b o e => of_hidT e, Nat.le_of_eq (hidT_size _ _), trivial, fun b hb => (List.not_mem_nil (show b ∈ ([] : List Addr) from hb)).elim, okH, AllBare.of_eq noGen⟩
  have run := (F _ (below_K inK) (below_ns at_ gl)).run callerA [] t (scrH K a vs ns) ⟨[.ref a], []⟩ [.ref a] [.ref a] _ _ rfl room env (bind t (.ref a)) (.cons rfl .nil) (ask _ (scrH_seq inK at_ len are))
  refine codeAny_mono run fun r t' done => ?_
  match r, done with
  | .error er, h => exact (show False from h).elim
  | .ok .next, h => exact (show False from h).elim
  | .ok .brk, h => exact (show False from h).elim
  | .ok .cont, h => exact (show False from h).elim
  | .ok (.ret u), ⟨v, H', os, bare, un, ok', rv, q⟩ =>
    have q' : v = .bl true := q
    subst q'
    obtain rfl : u = Value.bool true := rv
    refine ⟨rfl, OldK.of_keep fun b o hb => ?_, os, bare⟩
    cases e : scrH K a vs ns b with
    | none => exact un.keep b o hb e (fun z => (List.not_mem_nil (show b ∈ ([] : List Addr) from z)).elim) (by simp)
    | some y =>
      obtain ⟨rfl, _, rfl⟩ := scrH_some e
      obtain ⟨h2, _⟩ := ok' b _ (un.frzs b _ _ e)
      rw [at_] at hb
      cases hb
      exact h2
theorem walk_ofG {l : PySem.W.OpenLaw} {n k : Nat} {q : Program} {loose : List Str} {XP : (Str → Option Value) → Heap → Prop} {YP : World → Heap → Prop} {d : DefRec} {K : Params → PySem.W.Frag} {sp : World → Sp} {x : Str} (most : l.most = some n) (n63 : n ≤ sizeLine) (noD : d.params.defaults = []) (room : Room k callerA)
    (inK : ∀ (w : World) (h : Heap), YP w h → (K w.params).In h)
    (F : ∀ (w : World) (mg : Str → Option Value) (fa : Addr) (h : Heap), (K w.params).In h → h.Ns mainGlobals mg → mg d.name = some (.ref fa) → ∃ fd : FuncData, (∀ (s : Shared) (u : Value), BindsTo s fd ⟨[u], []⟩ [(x, u)]) ∧ ∀ base : Heap, (K w.params).In base → base.Ns mainGlobals mg → FnG l.prog w (K w.params) mg base k fa fd [x] (sp w))
    (ask : ∀ (w : World) (H : Hp) (a : Addr) (ns : List Int), ns.length ≤ n → SqL (K w.params) H a (ns.map V.int) → sp w [.ref a] H (fun v _ => v = .bl true) C8.E0) : PySem.W.WalkO q loose XP YP l.row.toRowW d [] (fun f vs => PySem.call f vs) := by
  refine Att.attach_call most noD ?_
  intro w t0 t mg mb fa o pm cd doc a vs ns ground yes hf hd hcode hmg hobj hints hlen noGen
  obtain ⟨fd, bind, good⟩ := F w mg fa _ (inK w _ yes) ground.T.g hmg
  exact law_callG (inK w _ yes) ground.T.g ground.T.b ground.T.builtins ground.T.nolimit noGen hobj hints (Nat.le_trans hlen n63) room good bind fun H hS => ask w H a ns hlen hS
end D1

namespace D1
open PySem L2 Rp
/-! ### data all of whose objects are new -/
/-- what G has beside H0 -/
def dif (G H0 : Hp) : Hp := fun b => match H0 b with | none => G b | some _ => none
theorem dif_none {G H0 : Hp} {b : Addr} (h : H0 b = none) : dif G H0 b = G b := by unfold dif; rw [h]
theorem dif_at {G H0 : Hp} {b : Addr} {o : HO} (h : dif G H0 b = some o) : H0 b = none ∧ G b = some o := by
  unfold dif at h
  cases e : H0 b with
  | none => rw [e] at h; exact ⟨rfl, h⟩
  | some u => rw [e] at h; cases h
theorem dif_same {G H0 : Hp} : Same (dif G H0) G := fun b o e => (dif_at e).2
theorem dif_up {G G' H0 : Hp} (s : Same G G') : Same (dif G H0) (dif G' H0) := fun b o e => by rw [dif_none (dif_at e).1]; exact s _ _ (dif_at e).2
/-- new beside more is new beside less -/
theorem dif_less {G H0 H1 : Hp} (h : ∀ b, H0 b ≠ none → H1 b ≠ none) : Same (dif G H1) (dif G H0) := fun b o e => by
  obtain ⟨h1, h2⟩ := dif_at e
  have : H0 b = none := by
    cases q : H0 b with
    | none => rfl
    | some u => exact absurd h1 (h b (by rw [q]; exact fun z => nomatch z))
  rw [dif_none this]
  exact h2
theorem GrM.difs {M : Addr → Prop} {G H G1 H1 G2 : Hp} (g : GrM M G H G1 H1) : Same (dif G2 H1) (dif G2 H) := dif_less g.d
section
variable {α β γ δ : Type} [Rp α] [Rp β] [Rp γ] [Rp δ] {X : Cx} {a b c e : Expr} {σ : St} {G : Hp} {pos p : Pos} {rest : List Stmt} {k j : Nat} {x : Str}
def EvF (X : Cx) (e : Expr) (σ : St) (G : Hp) (a : α) : Prop := ∀ G1 H1 (Q : VK), Same G G1 → Same G1 H1 → (∀ G2 H2 v, Gr G1 H1 G2 H2 → rp (dif G2 H1) v a → Q v H2) → WE X e σ H1 Q
theorem EvF.ev {d : α} (h : EvF X e σ G d) : Ev X e σ G d := fun G1 H1 Q s1 s2 k => h G1 H1 Q s1 s2 fun G2 H2 v g r => k G2 H2 v g (rup dif_same r)
theorem EvF.eq {d d' : α} (h : EvF X e σ G d) (q : d = d') : EvF X e σ G d' := q ▸ h
theorem EvF.ap {G1 H1 : Hp} {d : α} {Q : VK} (s2 : Same G1 H1) (h : EvF X e σ G1 d) (k : ∀ G2 H2 v, Gr G1 H1 G2 H2 → rp (dif G2 H1) v d → Q v H2) : WE X e σ H1 Q := h G1 H1 Q (Same.refl _) s2 k
/-- atoms are new -/
theorem rp_str {G : Hp} {v : V} {z : Str} (h : rp G v z) (G' : Hp) : rp G' v z := h
theorem EvF.str {z : Str} (h : Ev X e σ G z) : EvF X e σ G z := fun G1 H1 Q s1 s2 k => h G1 H1 Q s1 s2 fun G2 H2 v g r => k G2 H2 v g r
theorem EvF.non {j} : EvF X (.Constant .none j pos) σ G (Option.none : Option α) := fun G1 H1 Q s1 s2 k => WE.of pe_non (k G1 H1 _ (GrM.refl s2) rfl)
theorem EvF.opt {d : α} (h : EvF X e σ G d) : EvF X e σ G (Option.some d) := fun G1 H1 Q s1 s2 k => h G1 H1 Q s1 s2 fun G2 H2 v g r => k G2 H2 v g r
theorem EvF.unopt {d : α} (h : EvF X e σ G (Option.some d)) : EvF X e σ G d := fun G1 H1 Q s1 s2 k => h G1 H1 Q s1 s2 fun G2 H2 v g r => k G2 H2 v g r
theorem new_lst {G1 H1 G2 H2 : Hp} {p : Addr} {o : HO} (g : Gr G1 H1 G2 H2) (hp : H2 p = none) : dif (upd G2 p o) H1 p = some o := by rw [dif_none (g.fresh hp)]; exact upd_same
theorem EvF.nil : EvF X (.List [] pos) σ G ([] : List α) := fun G1 H1 Q s1 s2 k => WE.of (pe_lst pa_nil) ⟨small_sz, fun q hq =>
  k _ _ _ (Gr.new (o := .lst []) s2 hq) ⟨q, [], rfl, new_lst (GrM.refl s2) hq, .nil⟩⟩
theorem EvF.split {z y : Str} {apos : Pos} (ha : Ev X a σ G z) (hb : Ev X b σ G y) (hy : (y.length == 0) = false) (hz : z.length + 2 ≤ sizeLine) (hs : starEach [b] X.env = [(false, eval b X.env)] := by rfl) (hbase : attributeBase a "split" X.env (eval a X.env) = eval a X.env := by rfl) (hline : (apos.endLine == pos.line) = true := by rfl) :
    EvF X (.Call (.Attribute a "split" apos) [b] [] pos) σ G (Txt.split z y) := fun G1 H1 Q s1 s2 k =>
  WE.of (pe_split pe_we pe_we hs hbase hline) (ha G1 H1 _ s1 s2 fun G2 H2 v g r => by
    cases r
    refine ⟨⟨z, rfl⟩, hb G2 H2 _ (s1.trans g.g) g.s fun G3 H3 u g2 r2 => ?_⟩
    cases r2
    refine ⟨z, y, rfl, rfl, hy, hz, fun p hp => ?_⟩
    have g12 := g.trans g2
    exact k _ _ _ (g12.trans (Gr.new (o := .lst ((Txt.split z y).map V.str)) g2.s hp)) ⟨p, _, rfl, new_lst g12 hp, strs_to _⟩)
theorem EvF.tup3 {d1 : α} {d2 : β} {d3 : γ} {z} (ha : EvF X a σ G d1) (hb : EvF X b σ G d2) (hc : EvF X c σ G d3) (hs : starEach [a, b, c] X.env = (false, eval a X.env) :: starEach [b, c] X.env := by rfl) (hs1 : starEach [b, c] X.env = (false, eval b X.env) :: starEach [c] X.env := by rfl) (hs2 : starEach [c] X.env = (false, eval c X.env) :: starEach [] X.env := by rfl) :
    EvF X (.Tuple [a, b, c] z pos) σ G (T3.mk d1 d2 d3) := fun G1 H1 Q s1 s2 k =>
  WE.of (pe_tup (pa_cons pe_we (pa_cons pe_we (pa_cons pe_we pa_nil hs2) hs1) hs)) (ha G1 H1 _ s1 s2 fun G2 H2 v g r => hb G2 H2 _ (s1.trans g.g) g.s fun G3 H3 u g2 r2 => hc G3 H3 _ (s1.trans (g.trans g2).g) g2.s fun G4 H4 t g3 r3 => ⟨small_sz (n := 3), fun q hq => by
    have g13 := (g.trans g2).trans g3
    have g4 := Gr.new (o := .tup [v, u, t]) g3.s hq
    exact k _ _ _ (g13.trans g4) ⟨q, v, u, t, rfl, new_lst g13 hq, rup (dif_up ((g2.trans g3).trans g4).g) r, rup ((dif_up (g3.trans g4).g).trans g.difs) r2, rup ((dif_up g4.g).trans (g.trans g2).difs) r3⟩⟩)
theorem EvF.tup2 {d1 : α} {d2 : β} {z} (ha : EvF X a σ G d1) (hb : EvF X b σ G d2) (hs : starEach [a, b] X.env = (false, eval a X.env) :: starEach [b] X.env := by rfl) (hs2 : starEach [b] X.env = (false, eval b X.env) :: starEach [] X.env := by rfl) :
    EvF X (.Tuple [a, b] z pos) σ G (d1, d2) := fun G1 H1 Q s1 s2 k =>
  WE.of (pe_tup (pa_cons pe_we (pa_cons pe_we pa_nil hs2) hs)) (ha G1 H1 _ s1 s2 fun G2 H2 v g r => hb G2 H2 _ (s1.trans g.g) g.s fun G3 H3 u g2 r2 => ⟨small_sz (n := 2), fun q hq => by
    have g13 := g.trans g2
    have g4 := Gr.new (o := .tup [v, u]) g2.s hq
    exact k _ _ _ (g13.trans g4) ⟨q, v, u, rfl, new_lst g13 hq, rup (dif_up (g2.trans g4).g) r, rup ((dif_up g4.g).trans g.difs) r2⟩⟩)
/-- one argument; what is told is new -/
def P1F {α β : Type} [Rp α] [Rp β] (pre : α → Prop) (f : α → β) : Sp := fun vs H Q _ => ∃ G v a, vs = [v] ∧ Same G H ∧ rp G v a ∧ pre a ∧ ∀ G' H' w, Gr G H G' H' → rp (dif G' H) w (f a) → Q w H'
theorem P1F.imp {pre : α → Prop} {f : α → β} {vs : List V} {H : Hp} {Q : VK} {E : XK} (h : P1 pre f vs H Q E) : P1F pre f vs H Q E := by
  obtain ⟨G, v, a, e, s, r, p, k⟩ := h
  exact ⟨G, v, a, e, s, r, p, fun G' H' w g r => k G' H' w g (rup dif_same r)⟩
theorem cal_imp {P : Program} {w : World} {K : PySem.W.Frag} {mg : Str → Option Value} {base : Heap} {sp sp' : Sp} (c : C8.Cal P w K mg base k x sp []) (h : ∀ vs H Q E, sp' vs H Q E → sp vs H Q E) : C8.Cal P w K mg base k x sp' [] := by
  obtain ⟨f, fd, ps, ds, F, m, kp, b, v⟩ := c.ex
  cases v
  refine ⟨f, fd, ps, [], F.imp fun vs H Q E q => ?_, m, kp, b, .nil⟩
  exact h vs H Q E q
theorem EvF.call1 {pre : α → Prop} {f : α → β} {d : α} (cc : C8.Cal X.prog X.w X.K X.mg X.base k x (P1F pre f) []) (hr : Room j X.A) (ha : Ev X e σ G d) (hp : pre d) (hk : k ≤ j := by decide) (hg : Gl X x := by rfl)
    (hdb : (x == ("__debug__" : Str)) = false := by decide) (hs : starEach [e] X.env = (false, eval e X.env) :: starEach [] X.env := by rfl) (hpl : (backTo pos (starEach [] X.env)).any (·.1) = false := by rfl) : EvF X (.Call (.Name x p) [e] [] pos) σ G (f d) := fun G1 H1 Q s1 s2 kk =>
  WE.of (C8.pe_c cc hr hk hg (pa_cons pe_we pa_nil hs) hdb hs hpl) (ha G1 H1 _ s1 s2 fun G2 H2 v g r => ⟨G2, v, d, rfl, g.s, r, hp, fun G3 H3 w g2 r2 => kk G3 H3 w (g.trans g2) (rup g.difs r2)⟩)
theorem EvF.iteT {z : α} (h : ET X c σ G true) (h1 : EvF X a σ G z) : EvF X (.IfExp c a b pos) σ G z := fun G1 H1 Q s1 s2 k =>
  WE.of (pe_ifExp pt_wt pe_we pe_we) (h G1 H1 _ s1 s2 fun G2 H2 g => h1 G2 H2 _ (s1.trans g.g) g.s fun G3 H3 v g2 r => k G3 H3 v (g.trans g2) (rup g.difs r))
theorem EvF.iteF {z : α} (h : ET X c σ G false) (h2 : EvF X b σ G z) : EvF X (.IfExp c a b pos) σ G z := fun G1 H1 Q s1 s2 k =>
  WE.of (pe_ifExp pt_wt pe_we pe_we) (h G1 H1 _ s1 s2 fun G2 H2 g => h2 G2 H2 _ (s1.trans g.g) g.s fun G3 H3 v g2 r => k G3 H3 v (g.trans g2) (rup g.difs r))
theorem we_ifF {H : Hp} {G1 : Hp} {Q : VK} (s : Same G1 H) (h : ET X c σ G1 false) (k : ∀ G2 H2, Gr G1 H G2 H2 → WE X b σ H2 Q) : WE X (.IfExp c a b pos) σ H Q :=
  WE.of (pe_ifExp pt_wt pe_we pe_we) (h G1 H _ (Same.refl _) s fun G2 H2 g => k G2 H2 g)
theorem we_ifT {H : Hp} {G1 : Hp} {Q : VK} (s : Same G1 H) (h : ET X c σ G1 true) (k : ∀ G2 H2, Gr G1 H G2 H2 → WE X a σ H2 Q) : WE X (.IfExp c a b pos) σ H Q :=
  WE.of (pe_ifExp pt_wt pe_we pe_we) (h G1 H _ (Same.refl _) s fun G2 H2 g => k G2 H2 g)
end
end D1

namespace D1
open PySem L2 Rp Da
/-! ### not in, of a pair of data -/
def rNiT (K : PySem.W.Frag) : R2 := fun x y H Q => ∃ d ds, Dp K H x d ∧ Dp K H y (.tuple ds) ∧ SeqAt.shaped d = true ∧ PyData.canLayAll0 ds = true ∧ Q (.bl (!ds.any fun z => PyData.eqv z d)) H
section
variable {α β γ : Type} [Rp α] [Rp β] [Rp γ] {X : Cx} {a b e : Expr} {σ : St} {G : Hp} {pos p : Pos} {rest : List Stmt} {k j : Nat} {x : Str}
theorem op_niT (hu : X.A.units + 65 < cLine) : OpR X (compareOp .NotIn) (rNiT X.K) := by
  intro pins s σ H u v uv vv Q I ru rv ask
  obtain ⟨d, ds, h1, h2, h3, h4, q⟩ := ask
  obtain ⟨as, r1⟩ := Dp.reads I d u uv h1 ru
  obtain ⟨bs, r2⟩ := Dp.reads I (.tuple ds) v vv h2 rv
  exact SeqAt.notIn_tuple_reads r2 r1 h4 (SeqAt.canLay_of_shaped h3) (PyProof.Rows.room_in_shaped h3 hu) ⟨.bl _, H, I, rfl, q⟩
theorem ET.niP [Da α] [DecidableEq α] [De α] {d y z : α} (hu : X.A.units + 65 < cLine) (ha : Ev X a σ G d) (hb : Ev X b σ G (y, z)) (ld : lay d) (ly : lay y) (lz : lay z) (hm : behindInMarks .NotIn b = false := by rfl) (hd : dep α ≤ 64 := by decide) : ET X (.Compare a [.NotIn] [b] pos) σ G (!decide (d = y ∨ d = z)) :=
  ET.cmp (op_niT hu) hm (fun G H u v Q s r1 r2 k => by
    refine ⟨toD d, [toD y, toD z], dp (rup s r1), dp (a := (y, z)) (rup s r2), shaped_of ld hd, canAll_of (as := [y, z]) (fun w hw => ?_), ?_⟩
    · rcases List.mem_cons.mp hw with e | hw
      · rw [e]; exact ly
      · rw [List.mem_singleton.mp hw]; exact lz
    · have e1 := any_eqv d [y, z]
      have e2 : decide (d ∈ [y, z]) = decide (d = y ∨ d = z) := by
        rw [Bool.eq_iff_iff, decide_eq_true_eq, decide_eq_true_eq]
        simp
      rw [e2] at e1
      show Q (.bl (!([y, z].map toD).any fun w => PyData.eqv w (toD d))) H
      rw [e1]
      exact k _ _ _ (GrM.refl s) rfl) ha hb
/-- a def that stands in a slot is called, what is told is new -/
theorem EvF.callL (i : Nat) {f0 : Addr} {pre : α → Prop} {f : α → β} {z : α} (c : C8.CalAt X.prog X.w X.K X.mg X.base k f0 (P1F pre f)) (hr : Room j X.A) (hσ : σ[i]? = some (some (.ref f0))) (ha : Ev X a σ G z) (hp : pre z) (hk : k ≤ j := by decide) (hN : X.N[i]? = some x := by rfl)
    (hv : Vis X.env.scope x := by first | exact Or.inl rfl | exact Or.inr (Or.inl rfl) | exact Or.inr (Or.inr rfl)) (hdb : (x == ("__debug__" : Str)) = false := by decide) (hcd : (x == ("__classdict__" : Str)) = false := by decide)
    (hs : starEach [a] X.env = (false, eval a X.env) :: starEach [] X.env := by rfl) (hpl : (backTo pos (starEach [] X.env)).any (·.1) = false := by rfl) : EvF X (.Call (.Name x p) [a] [] pos) σ G (f z) := fun G1 H1 Q s1 s2 kk => by
  obtain ⟨fd, ps, F, kp, bi⟩ := c.ex
  exact WE.of (pe_callL (CX := C8.CX0) (E := C8.E0) (sp := P1F pre f) F (hr.mono hk) hN hv kp bi .nil C8.pass0 (pa_cons pe_we pa_nil hs) hdb hcd hs hpl) ⟨hσ, ha G1 H1 _ s1 s2 fun G2 H2 v g r => ⟨G2, v, z, rfl, g.s, r, hp, fun G3 H3 w g2 r2 => kk _ _ _ (g.trans g2) (rup g.difs r2)⟩⟩
/-- try, where the body raises nothing -/
theorem ws_try {body : List Stmt} {h0 : ExceptHandler} {hs : List ExceptHandler} {D : Ends} {H : Hp} (h : WS X.nox body { D with nx := fun σ' H' => WS X rest D σ' H' } σ H) : WS X (.Try body (h0 :: hs) [] [] pos :: rest) D σ H := WS.cons (ps_try_thru0 (t := WS X.nox body) pss_ws) h
end
end D1

namespace D1
open PySem L2 Rp
section
variable {α β γ δ : Type} [Rp α] [Rp β] [Rp γ] [Rp δ] {X : Cx} {a b e : Expr} {σ : St} {G : Hp} {pos p q px : Pos} {rest : List Stmt}
theorem pairedRev {F : V → α → Prop} : ∀ {xs : List V} {l : List α}, Paired F xs l → Paired F xs.reverse l.reverse
  | _, _, .nil => .nil
  | _, _, .cons r t => by
    rw [List.reverse_cons, List.reverse_cons]
    exact r2_cat.PairedAppend (pairedRev t) (.cons r .nil)
/-- xs[::-1] -/
theorem Ev.revL {l : List α} {k p1 p2 p3} (h : Ev X e σ G l) : Ev X (.Subscript e (.Slice none none (some (.UnaryOp .USub (.Constant (.int 1) k p1) p2)) p3) pos) σ G l.reverse := fun G1 H1 Q s1 s2 kk =>
  WE.of (pe_revL pe_we) (h G1 H1 _ s1 s2 fun G2 H2 v g r => by
    obtain ⟨q, xs, rfl, h1, pr⟩ := r
    refine ⟨q, xs, rfl, SqL.of (g.s _ _ h1), fun p hp => ?_⟩
    have g2 := Gr.new (o := .lst xs.reverse) g.s hp
    exact kk _ _ _ (g.trans g2) ⟨p, _, rfl, upd_same, pmono (pairedRev pr) fun _ _ => rup g2.g⟩)
/-- xs[i], where i comes of a change -/
theorem we_ixI {H : Hp} {Q : VK} (h : WE X a σ H fun v H1 => WE X b σ H1 fun u H2 => ∃ (G2 : Hp) (l : List α) (i : Nat), Same G2 H2 ∧ rp G2 v l ∧ u = .int (i : Int) ∧ i < l.length ∧ ∀ w d, d ∈ l → rp G2 w d → Q w H2) (hs : PlainIx b := by exact fun _ _ => rfl) : WE X (.Subscript a b pos) σ H Q :=
  WE.of (pe_ix ix_list pe_we pe_we hs) (WE.mono h fun v H1 h2 => WE.mono h2 fun u H2 ⟨G2, l, i, s, r, e, hi, k⟩ => by
    obtain ⟨q, xs, rfl, h1, pr⟩ := r
    have hj : i < xs.length := by rw [pr.length]; exact hi
    obtain ⟨d, e1, e2⟩ := paired_at pr (List.getElem?_eq_getElem hj)
    exact ⟨q, xs, (i : Int), xs[i], rfl, e, SqL.of (s _ _ h1), atI_nat (List.getElem?_eq_getElem hj), k _ d (List.mem_of_getElem? e1) e2⟩)
/-- xs[:i], where both come of a change -/
theorem we_slToI {p2 : Pos} {H : Hp} {Q : VK} (h : WE X a σ H fun v H1 => WE X b σ H1 fun u H2 => ∃ (G2 : Hp) (l : List α) (i : Int), u = .int i ∧ Same G2 H2 ∧ rp G2 v l ∧ ∀ G3 H3 w, Gr G2 H2 G3 H3 → rp G3 w (cutL l none (some i)) → Q w H3) : WE X (.Subscript a (.Slice none (some b) none p2) pos) σ H Q :=
  WE.of (pe_slice sl_list pe_we po_none (po_some pe_we)) (WE.mono h fun v H1 h2 => WE.mono h2 fun u H2 ⟨G2, l, i, e, s, r, k⟩ => ⟨i, e, rSl_data s r fun G4 H4 w g3 r3 => k _ _ _ g3 r3⟩)
/-- [elt for i in range(n)], where n and elt come of changes -/
theorem tlc_R {elt : Expr} {scope : Scope} {own : List (Str × Nat)} {j : Nat} {y : Str} {G1 H1 : Hp} {Q : VK} (I : Nat → Addr → Nat → List V → Hp → Hp → Prop) (hm : X.mg "range" = none)
    (h : WE X e σ H1 fun v H2 => ∃ n : Nat, v = .int (n : Int) ∧ n < 1000000 ∧ ∃ G2, Same G1 G2 ∧ Same G2 H2 ∧ (∀ b, H1 b ≠ none → H2 b ≠ none) ∧ ∀ D, H2 D = none → I n D 0 [] G2 (upd H2 D (.lst [])))
    (he : ∀ n D i acc G2 H2, i < n → Same G1 G2 → Same G2 H2 → G2 D = none → H2 D = some (.lst acc) → acc.length = i → H1 D = none → I n D i acc G2 H2 → ∀ G3 H3, Gr G2 H2 G3 H3 → ∀ s H C cl fp,
      WE (BK X s H scope C cl fp) elt ((wipe σ (own.map (·.2))).set j (some (.int (i : Int)))) H3 fun v H4 => ∃ G4, Same G3 G4 ∧ Same G4 H4 ∧ G4 D = none ∧ H4 D = some (.lst acc) ∧ I n D (i + 1) (acc ++ [v]) G4 (upd H4 D (.lst (acc ++ [v]))))
    (k : ∀ n D acc G2 H2, Same G1 G2 → Same G2 H2 → G2 D = none → H2 D = some (.lst acc) → acc.length = n → H1 D = none → I n D n acc G2 H2 → Q (.ref D) H2)
    (hw : ∀ v, wipe ((wipe σ (own.map (·.2))).set j (some v)) (own.map (·.2)) = wipe σ (own.map (·.2))) (hg : Gl X "range" := by rfl) (hst : starEach [e] X.env = [(false, eval e X.env)] := by rfl) :
    tLc (WI X (.Name y px) (.Call (.Name "range" p) [e] [] q)) (gName j) (ATs X scope []) (AE X scope elt) (own.map (·.2)) σ H1 Q :=
  WI.of (pi_range1 hg hm (pa_cons pe_we pa_nil hst) hst) (WE.mono h fun v H2 ⟨n, e1, e2, G2, a1, a2, dom, a3⟩ => by
    subst e1
    refine ⟨(n : Int), rfl, by omega, by omega, ?_⟩
    rw [Int.toNat_natCast]
    intro D hD
    have gD : G2 D = none := a2.free hD
    have hD1 : H1 D = none := by
      cases e : H1 D with
      | none => rfl
      | some o => exact absurd hD (dom D (by rw [e]; exact fun z => nomatch z))
    refine lc_it (Qd := fun H => Q (.ref D) H) walk_range (fun i H => ∃ G3 acc, Same G2 G3 ∧ Same G3 H ∧ G3 D = none ∧ H D = some (.lst acc) ∧ acc.length = i ∧ I n D i acc G3 H) ?_ (fun _ _ _ _ => trivial) ?_ ?_
    · exact ⟨G2, [], Same.refl _, fun b o e => by rw [upd_ne (ne_of_none e gD)]; exact a2 b o e, gD, upd_same, rfl, a3 D hD⟩
    · rintro i x H H' hi' ⟨G3, acc, b1, b2, b3, b4, b5, b6⟩ y
      obtain ⟨rfl, rfl⟩ := y
      have ez : (0 : Int) + (i : Int) = (i : Int) := Int.zero_add _
      show wipe ((wipe σ _).set j (some (.int (0 + (i : Int))))) _ = _ ∧ _
      refine ⟨hw _, ?_⟩
      intro s0 H0 C cl fp
      refine ETs.nil (X := BK X s0 H0 scope C cl fp) G3 H' _ (Same.refl _) b2 fun G5 H5 g5 => ?_
      rw [if_pos rfl]
      intro s0 H0 C cl fp
      show WE (BK X s0 H0 scope C cl fp) elt ((wipe σ (own.map (·.2))).set j (some (.int (0 + (i : Int))))) H5 _
      rw [ez]
      refine WE.mono (he n D i acc G3 H' hi' (a1.trans b1) b2 b3 b4 b5 hD1 b6 G5 H5 g5 s0 H0 C cl fp) fun v H6 ⟨G6, c1, c2, c3, c4, c5⟩ => ?_
      have e3 : sizeLine = 16777216 := rfl
      refine ⟨acc, c4, by omega, G6, acc ++ [v], (b1.trans g5.g).trans c1, fun b' o e => ?_, c3, upd_same, by rw [List.length_append, b5]; rfl, c5⟩
      rw [upd_ne (ne_of_none e c3)]
      exact c2 b' o e
    · rintro H ⟨G3, acc, b1, b2, b3, b4, b5, b6⟩
      exact k n D acc G3 H (a1.trans b1) b2 b3 b4 b5 hD1 b6)
end
end D1

namespace D1
open PySem L2 Rp
section
variable {α β γ δ : Type} [Rp α] [Rp β] [Rp γ] [Rp δ] {X : Cx} {a b c e tg : Expr} {σ : St} {G : Hp} {pos p q px : Pos} {rest : List Stmt}
/-- y = [x for x in iter if c], y a plain local name -/
theorem ws_asgSel (i j : Nat) {x y : Str} {px2 py spos : Pos} {iter : Expr} {scope : Scope} {l : List γ} {t : γ → Bool} {G1 H1 : Hp} {D : Ends} (s1 : Same G G1) (s2 : Same G1 H1) (hi : EI X (.Name x px) iter σ G l)
    (ht : ∀ d ∈ l, ∀ G' v, Same G G' → rp G' v d → ∀ s H C cl fp, ET (BK X s H scope C cl fp) c ((wipe σ [j]).set j (some v)) G' (t d))
    (k : ∀ G2 H2 v, Gr G1 H1 G2 H2 → rp G2 v (l.filter t) → WS X rest D (σ.set i (some v)) H2) (hz : l.length < sizeLine) (hN : X.N.Nodup) (ok : BlkOk X.N X.env.scope scope [(x, j)])
    (hsw : swapsWith (.ListComp (.Name x px2) [⟨.Name x px, iter, [c], 0⟩] scope pos) (some (.Name y py)) spos.line X.env = pure true := by rfl) (hx : X.N[j]? = some x := by rfl) (lx : Loc (relS scope X.env.scope) x := by first | exact Or.inl rfl | exact Or.inr rfl)
    (fx : (scope.names.lookup x == some .cell) = true ∨ (relS scope X.env.scope).names.lookup x = some .local := by first | exact .inr rfl | exact .inl rfl) (vx : Vis (relS scope X.env.scope) x := by first | exact Or.inl rfl | exact Or.inr (Or.inl rfl) | exact Or.inr (Or.inr rfl)) (hd : (x == ("__debug__" : Str)) = false := by decide) (hcd : (x == ("__classdict__" : Str)) = false := by decide)
    (hc : X.calm = true := by rfl) (hy : X.N[i]? = some y := by rfl) (hyl : X.env.scope.names.lookup y = some .local := by rfl) (hs : ∀ x, foldedSetIterable iter X.env x = pure x := by intro _; rfl) (hjl : ∀ v : V, ((wipe σ [j]).set j (some v))[j]? = some (some v) := by intro _; rfl) :
    WS X (.Assign [.Name y py] (.ListComp (.Name x px2) [⟨.Name x px, iter, [c], 0⟩] scope pos) spos :: rest) D σ H1 :=
  WS.cons (ps_setLc (own := [(x, j)]) (g := gName j) (tt := ATs X scope [c]) (te := AE X scope (.Name x px2)) hc hN hy hyl hsw pi_wi ok (fun _ _ _ _ _ => pg_name hN hx lx fx) (fun s H C cl fp => ⟨fun pins s1 σ' H' Q' I h => h s H C cl fp pins s1 I⟩) (fun s H C cl fp => ⟨fun pins s1 σ' H' Q' I h => h s H C cl fp pins s1 I⟩) hs)
    (hi G1 H1 _ s1 s2 fun J S Y G2 H2 g2 w hS hY L hL => by
      have key := lc_data (f := fun d : γ => d) (t := t) (Qd := fun v H3 => WS X rest D (σ.set i (some v)) H3) (tt := ATs X scope [c]) (te := AE X scope (.Name x px2)) (vs := [j]) w hS hY (tgB1 (i := j)) (fun _ _ _ b => wipe_b1 b)
        (fun d hd' G' σ' sG b H' Q' s3 k' s H C cl fp pins s1' I => by
          obtain ⟨v, r, e⟩ := b
          subst e
          exact ETs.one (ht d hd' G' v ((s1.trans g2.g).trans sG) r s H C cl fp) G' H' Q' (Same.refl _) s3 k' pins s1' I)
        (fun d hd' td G' σ' sG b G1' H' Q' s3 s4 k' s H C cl fp => by
          obtain ⟨v, r, e⟩ := b
          subst e
          exact (Ev.v (X := BK X s H scope C cl fp) j (v := v) (d := d) (hjl v) r hx vx hd hcd) G1' H' Q' s3 s4 k')
        hz g2.s hL fun G3 H3 v g3 r => k G3 H3 v (g2.trans g3) (by rwa [List.map_id'] at r)
      exact key)
end
end D1

namespace D1
open PySem L2 Rp Da
/-! ### how long what repr tells may be -/
theorem textFrom_le : ∀ (ts : List Str) (k : Nat) (acc : Str), (textFrom k acc ts).length ≤ acc.length + piled ts
  | [], k, acc => by rw [piled_nil]; exact Nat.le_refl _
  | t :: r, k, acc => by
    have h := textFrom_le r (k + 1) (acc ++ (if k > 0 then ", " else "" : String) ++ t)
    have e : (acc ++ (if k > 0 then ", " else "" : String) ++ t).length ≤ acc.length + 2 + t.length := by
      rw [strLen_append, strLen_append]
      split
      · exact Nat.le_refl _
      · show acc.length + 0 + t.length ≤ _
        omega
    rw [piled_cons]
    show (textFrom (k + 1) (acc ++ (if k > 0 then ", " else "" : String) ++ t) r).length ≤ _
    omega
theorem listText_le (ts : List Str) : (listText ts).length ≤ piled ts + 2 := by
  unfold listText
  rw [strLen_append]
  have h := textFrom_le ts 0 "["
  have e1 : (("[" : String) : Str).length = 1 := rfl
  have e2 : (("]" : String) : Str).length = 1 := rfl
  omega
class Sh (α : Type) [Rp α] [Da α] where
  cost : α → Nat
  sh : ∀ a : α, lay a → (toD a).showable = true
  le : ∀ a : α, lay a → (toD a).shown.length ≤ cost a
  shp : ∀ a : α, (∃ xs, toD a = .list xs) ∨ (∃ xs, toD a = .tuple xs) ∨ ∃ z, toD a = .str z
theorem ok_small {z : Str} (h : PyData.strOk z = true) : ∀ c ∈ z.cps.toList, c < 16 ^ 8 := fun c hc => by
  unfold PyData.strOk at h
  rw [Array.all_eq_true_iff_forall_mem] at h
  have := h c (Array.mem_toList_iff.mp hc)
  simp at this
  omega
instance : Sh Str := ⟨fun z => 10 * z.length + 2, fun a _ => by show PyData.showable (.str a) = true; simp [PyData.showable], fun a h => by
  show (PyData.shown (.str a)).length ≤ _
  simp only [PyData.shown]
  exact StrLaws.reprText_len a (ok_small h), fun a => .inr (.inr ⟨a, rfl⟩)⟩
theorem sh_all {α : Type} [Rp α] [Da α] [Sh α] : ∀ l : List α, (∀ a ∈ l, lay a) → PyData.showableAll (l.map toD) = true
  | [], _ => by simp [PyData.showableAll]
  | a :: l, h => by
    simp only [List.map_cons, PyData.showableAll, Bool.and_eq_true]
    exact ⟨Sh.sh a (h a List.mem_cons_self), sh_all l fun b hb => h b (List.mem_cons_of_mem _ hb)⟩
theorem piled_all {α : Type} [Rp α] [Da α] [Sh α] : ∀ l : List α, (∀ a ∈ l, lay a) → piled (PyData.shownAll (l.map toD)) ≤ (l.map fun a => Sh.cost a + 2).sum
  | [], _ => by simp [PyData.shownAll, piled_nil]
  | a :: l, h => by
    have h1 := Sh.le a (h a List.mem_cons_self)
    have h2 := piled_all l fun b hb => h b (List.mem_cons_of_mem _ hb)
    simp only [List.map_cons, PyData.shownAll, piled_cons, List.sum_cons]
    omega
instance {α : Type} [Rp α] [Da α] [Sh α] : Sh (List α) := ⟨fun l => (l.map fun a => Sh.cost a + 2).sum + 2, fun l h => by
    show PyData.showable (.list (l.map toD)) = true
    simp only [PyData.showable]
    exact sh_all l h, fun l h => by
    show (PyData.shown (.list (l.map toD))).length ≤ _
    simp only [PyData.shown]
    have h1 := listText_le (PyData.shownAll (l.map toD))
    have h2 := piled_all l h
    omega, fun l => .inl ⟨_, rfl⟩⟩
instance {α β : Type} [Rp α] [Rp β] [Da α] [Da β] [Sh α] [Sh β] : Sh (α × β) := ⟨fun p => Sh.cost p.1 + Sh.cost p.2 + 6, fun p h => by
    show PyData.showable (.tuple [toD p.1, toD p.2]) = true
    simp only [PyData.showable, PyData.showableAll, Bool.and_true, Bool.and_eq_true]
    exact ⟨Sh.sh p.1 h.1, Sh.sh p.2 h.2⟩, fun p h => by
    show (PyData.shown (.tuple [toD p.1, toD p.2])).length ≤ _
    simp only [PyData.shown, PyData.shownAll]
    have h1 := fmt_text [(toD p.1).shown, (toD p.2).shown]
    have h2 := Sh.le p.1 h.1
    have h3 := Sh.le p.2 h.2
    simp only [piled_cons, piled_nil] at h1
    omega, fun p => .inr (.inl ⟨_, rfl⟩)⟩
instance {α β γ : Type} [Rp α] [Rp β] [Rp γ] [Da α] [Da β] [Da γ] [Sh α] [Sh β] [Sh γ] : Sh (T3 α β γ) := ⟨fun p => Sh.cost p.a + Sh.cost p.b + Sh.cost p.c + 8, fun p h => by
    show PyData.showable (.tuple [toD p.a, toD p.b, toD p.c]) = true
    simp only [PyData.showable, PyData.showableAll, Bool.and_true, Bool.and_eq_true]
    exact ⟨Sh.sh p.a h.1, Sh.sh p.b h.2.1, Sh.sh p.c h.2.2⟩, fun p h => by
    show (PyData.shown (.tuple [toD p.a, toD p.b, toD p.c])).length ≤ _
    simp only [PyData.shown, PyData.shownAll]
    have h1 := fmt_text [(toD p.a).shown, (toD p.b).shown, (toD p.c).shown]
    have h2 := Sh.le p.a h.1
    have h3 := Sh.le p.b h.2.1
    have h4 := Sh.le p.c h.2.2
    simp only [piled_cons, piled_nil] at h1
    omega, fun p => .inr (.inl ⟨_, rfl⟩)⟩
section
variable {α : Type} [Rp α] [Da α] [Sh α] {X : Cx} {e : Expr} {σ : St} {G : Hp} {p pos : Pos}
theorem Ev.reprS {d : α} (noG : X.A.guards = some []) (hu : X.A.units + 64 < cLine) (hm : X.mg "repr" = none) (h : Ev X e σ G d) (ld : lay d) (hz : Sh.cost d ≤ sizeLine) (h62 : dep α ≤ 62 := by decide)
    (hg : Gl X "repr" := by rfl) (hs : starEach [e] X.env = (false, eval e X.env) :: starEach [] X.env := by rfl) (hpl : (backTo pos (starEach [] X.env)).any (·.1) = false := by rfl) : Ev X (.Call (.Name "repr" p) [e] [] pos) σ G (showD d) :=
  Ev.repr noG hu hm h ld (Sh.sh d ld) (Nat.le_trans (Sh.le d ld) hz) Sh.shp h62 hg hs hpl
end
section
variable {X : Cx} {a b : Expr} {σ : St} {G : Hp} {pos : Pos}
/-- texts of any kind -/
theorem ET.neS {x y : Str} (ha : Ev X a σ G x) (hb : Ev X b σ G y) : ET X (.Compare a [.NotEq] [b] pos) σ G (!decide (x = y)) := ET.cmp op_ne (nomark _) (fun G H u v Q s r1 r2 k => by
  cases r1
  cases r2
  refine ⟨rfl, ?_⟩
  have e : (!decide (x = y)) = decide (¬ V.str x = V.str y) := by
    by_cases h : x = y
    · subst h; simp
    · simp [h]
  have := k _ _ (.bl (!decide (x = y))) (GrM.refl s) rfl
  first
    | (rw [e] at this; exact this)
    | simpa using this) ha hb
theorem Ev.eqS {x y : Str} (ha : Ev X a σ G x) (hb : Ev X b σ G y) : Ev X (.Compare a [.Eq] [b] pos) σ G (decide (x = y)) := Ev.cmp op_eq (nomark _) (fun G H u v Q s r1 r2 k => by
  cases r1
  cases r2
  refine ⟨rfl, ?_⟩
  have e : decide (x = y) = decide (V.str x = V.str y) := by
    by_cases h : x = y
    · subst h; simp
    · simp [h]
  have := k _ _ (.bl (decide (x = y))) (GrM.refl s) rfl
  first
    | (rw [e] at this; exact this)
    | simpa using this) ha hb
end
end D1

namespace D1
open PySem L2 Rp
section
variable {α β γ : Type} [Rp α] [Rp β] [Rp γ] {X : Cx} {a b : Expr} {σ : St} {pos p : Pos} {x : Str} {k j : Nat} {C : Addr}
/-- x(a, b) makes an object, where a and b may write -/
theorem we_make2 {pre : α → β → Prop} {f : α → β → γ} {H : Hp} {Q : VK} (c : C8.Mak X.prog X.w X.K X.mg X.base k x C (PI2 C pre f) []) (hr : Room j X.A) (h : WE X a σ H fun v H1 => WE X b σ H1 fun u H2 => ∃ G2 d z, Same G2 H2 ∧ rp G2 v d ∧ rp G2 u z ∧ pre d z ∧ ∀ G3 H3 w, Gr G2 H2 G3 H3 → rp G3 w (f d z) → Q w H3) (hk : k + 1 ≤ j := by decide) (hg : Gl X x := by rfl)
    (hdb : (x == ("__debug__" : Str)) = false := by decide) (he : starEach [a, b] X.env = (false, eval a X.env) :: starEach [b] X.env := by rfl) (he2 : starEach [b] X.env = (false, eval b X.env) :: starEach [] X.env := by rfl) (hpl : (backTo pos (starEach [b] X.env)).any (·.1) = false := by rfl) : WE X (.Call (.Name x p) [a, b] [] pos) σ H Q :=
  WE.of (C8.pe_mk c hr hk hg (pa_cons pe_we (pa_cons pe_we pa_nil he2) he) hdb he hpl) (WE.mono h fun v H1 h1 => WE.mono h1 fun u H3 ⟨G3, d, z, s3, r1, r2, hp, kk⟩ q dq hq hdq ne => by
    have gq : G3 q = none := s3.free hq
    refine ⟨G3, q, dq, v, u, d, z, rfl, upd_same, gq, made_gr (C := C) s3 hq hdq, r1, r2, hp, fun G4 H4 ob g3 ho r3 => ⟨rfl, ?_⟩⟩
    have g4q : G4 q = none := g3.f q gq (by rw [upd_same]; exact fun z => nomatch z)
    refine kk (upd G4 q ob) H4 _ ?_ r3
    refine ⟨g3.g.trans (same_new g4q), fun b' o' _ e => ?_, fun b' o' e => ?_, fun b' e n => ?_, fun b' n => ?_⟩
    · have ne1 := ne_of_none e hq
      exact g3.h b' o' ne1 (by rw [upd_ne ne1, upd_ne (ne_of_none e hdq)]; exact e)
    · by_cases hb' : b' = q
      · subst hb'; rw [upd_same] at e; cases e; exact ho
      · rw [upd_ne hb'] at e; exact g3.s b' o' e
    · rw [upd_ne (fun z => n (by rw [z]; exact hq))]
      exact g3.f b' e (upd_some (upd_some n))
    · exact g3.d b' (upd_some (upd_some n)))
end
end D1

namespace D1
open PySem PySem.Spec L2 Rp PyProof.Rows
/-! ### sorted(set(xs)), texts: the set's table rises and can be walked -/
theorem perm_sub2 {α : Type} [DecidableEq α] : ∀ {l m : List α}, l.Nodup → (∀ x ∈ l, x ∈ m) → m.length ≤ l.length → l.Perm m
  | [], m, _, _, h => by
    have e : m = [] := List.eq_nil_of_length_eq_zero (Nat.le_zero.mp h)
    rw [e]
  | x :: l, m, hn, hs, h => by
    obtain ⟨h1, h2⟩ := List.nodup_cons.mp hn
    have hm : x ∈ m := hs x List.mem_cons_self
    have p1 := List.perm_cons_erase hm
    refine List.Perm.trans (List.Perm.cons x (perm_sub2 (m := m.erase x) h2 (fun y hy => ?_) ?_)) p1.symm
    · have hne : y ≠ x := fun e => h1 (e ▸ hy)
      exact (List.mem_erase_of_ne hne).mpr (hs y (List.mem_cons_of_mem _ hy))
    · have := p1.length_eq
      rw [List.length_cons] at this
      rw [List.length_cons] at h
      omega
def ledOk (w : World) (t : SetTable) : Prop := w.params.followText "set-order" = true ∨ t.led = true
def SQ {P : Program} {w : World} (kd : PySem.KeyKind P w Str) (h : Heap) (a : Addr) (S : Str → Bool) (n : Nat) : Prop :=
  ∃ o u ep t, (h.get? a = some o ∧ o.ExactSet ∧ o.data = .set u ep t) ∧ ElemsOf kd u.toList ∧ (∀ k, S k = true ↔ ∃ e ∈ u.toList, kd.is k e.2 = true) ∧ (u.size < scanBound ∧ t.fits u.size = true ∧ u.size = n) ∧ Ris t.place.toList ∧ ledOk w t
section
variable {P : Program} {w : World} {kd : PySem.KeyKind P w Str} {A : Around} {E : Value → Shared → Prop} {s : Shared} {a : Addr} {S : Str → Bool} {n : Nat}
theorem SQ.congr {h : Heap} {S' : Str → Bool} {m : Nat} (R : SQ kd h a S n) (e : ∀ k, S' k = S k) (e2 : m = n) : SQ kd h a S' m := by
  have q : S' = S := funext e
  rw [q, e2]; exact R
theorem sq_at {h : Heap} {o : Obj} {u u' : Array (Int × Value)} {ep : Nat} {t t' : SetTable} (ho : h.get? a = some o) (hx : o.ExactSet) (hd : o.data = .set u ep t) (h1 : ElemsOf kd u'.toList) (h2 : ∀ k, S k = true ↔ ∃ e ∈ u'.toList, kd.is k e.2 = true) (h3 : u'.size < scanBound) (h4 : t'.fits u'.size = true)
    (h5 : Ris t'.place.toList) (h6 : ledOk w t') : SQ kd (h.update a (Obj.putSet u' t')) a S u'.size :=
  ⟨_, u', _, t', ⟨store_at ho hd, hx, rfl⟩, h1, h2, ⟨h3, h4, rfl⟩, h5, h6⟩
theorem sq_tail {f : Bool → Sem Unit} (hf : ∀ z s1 (R1 : Unit → Shared → Prop), R1 () s1 → wpAny (model P w) A (f z) R1 E s1) {o : Obj} {u u1 : Array (Int × Value)} {ep : Nat} {t t1 : SetTable} (ho : s.heap.get? a = some o) (hx : o.ExactSet) (hd : o.data = .set u ep t)
    (h1 : ElemsOf kd u1.toList) (h2 : ∀ k, S k = true ↔ ∃ e ∈ u1.toList, kd.is k e.2 = true) (h3 : u1.size < scanBound) (h4 : t1.fits u1.size = true) (h5 : Ris t1.place.toList) (h6 : ledOk w t1) {wd : Bool} {R : Option Bool → Shared → Prop}
    (k : ∀ h', Heap.SameBut a s.heap h' → SQ kd h' a S u1.size → R (some true) { s with heap := h' }) :
    wpAny (model P w) A (do { storeSet a u1 t1; if (!wd && t1.tooFull) = true then (do { f (relayAll t1 u1 (SetTable.grown u1.size)).2.2; storeSet a (relayAll t1 u1 (SetTable.grown u1.size)).1 (relayAll t1 u1 (SetTable.grown u1.size)).2.1; pure (some true) }) else pure (some true) }) R E s := by
  refine wpAny_bind (wpAny_storeSet_of ho hd ?_ (fits_of_scanBound h3))
  have q1 := store_at (es' := u1) (t' := t1) ho hd
  have b1 := Heap.SameBut.update s.heap a (Obj.putSet u1 t1)
  split
  · have e1 := relayAll_perm t1 u1 (SetTable.grown u1.size)
    have e2 := relayAll_fits t1 u1 (SetTable.grown u1.size)
    have e3 := relayAll_ris t1 u1 (SetTable.grown u1.size)
    have e4 := relayAll_led t1 u1 (SetTable.grown u1.size)
    generalize relayAll t1 u1 (SetTable.grown u1.size) = Y at e1 e2 e3 e4 ⊢
    obtain ⟨u2, t2, gv⟩ := Y
    dsimp only at e1 e2 e3 e4 ⊢
    have e5 : u2.size = u1.size := by rw [← Array.length_toList, e1.length_eq, Array.length_toList]
    have m2 : ∀ k, S k = true ↔ ∃ e ∈ u2.toList, kd.is k e.2 = true := fun k => (h2 k).trans ⟨fun ⟨e, i, j⟩ => ⟨e, e1.mem_iff.mpr i, j⟩, fun ⟨e, i, j⟩ => ⟨e, e1.mem_iff.mp i, j⟩⟩
    have b2 : u2.size < scanBound := e5 ▸ h3
    refine wpAny_bind (hf _ _ _ ?_)
    refine wpAny_bind (wpAny_storeSet_of q1 rfl ?_ (fits_of_scanBound b2))
    have z := sq_at (S := S) (kd := kd) q1 (show Obj.ExactSet _ from hx) rfl (h1.perm e1) m2 b2 e2 e3 (h6.imp id fun y => e4.trans y)
    exact wpAny_pure (k _ (b1.trans (Heap.SameBut.update _ a _)) (z.congr (fun _ => rfl) e5.symm))
  · exact wpAny_pure (k _ b1 (sq_at ho hx hd h1 h2 h3 h4 h5 h6))
theorem sq_add {x : Str} {v : Value} {Q : Bool → Shared → Prop} (hk : kd.is x v = true) (hsc : v.scannable = true) (R : SQ kd s.heap a S n) (room : n + 1 < scanBound)
    (k : ∀ h', Heap.SameBut a s.heap h' → SQ kd h' a (fun j => S j || decide (j = x)) (if S x then n + 0 else n + 1) → Q (!S x) { s with heap := h' }) : wpAny (model P w) A (setAddHashed a v (kd.hash x)) Q E s := by
  obtain ⟨o, u, ep, t, ⟨ho, hx, hd⟩, h1, h2, ⟨h3, h4, h5⟩, h6, h7⟩ := R
  have h5' : u.size + 1 < scanBound := h5.symm ▸ room
  unfold setAddHashed setAddHashedIn
  refine wpAny_holding (wpAny_bind (wpAny_setState_of ho hd h4 ?_))
  dsimp only
  rw [byScan_of hsc h3 h1, if_pos rfl]
  unfold setAddByScan
  refine wpAny_bind (wpAny_bind (wpAny_rule ?_))
  refine wpAny_bind (wpAny_setScan_of hk ho hd h4 h1 ?_)
  cases fi : List.findIdx? (fun e => kd.is x e.2) u.toList with
  | some j =>
    dsimp only
    obtain ⟨j1, j2, _⟩ := List.findIdx?_eq_some_iff_getElem.mp fi
    have sx : S x = true := (h2 x).mpr ⟨_, List.getElem_mem j1, j2⟩
    have z := k s.heap (Heap.SameBut.refl a s.heap) ⟨o, u, ep, t, ⟨ho, hx, hd⟩, h1, fun y => by
      rw [Bool.or_eq_true, decide_eq_true_eq, ← h2 y]
      exact ⟨fun c => c.elim id (fun e => e ▸ sx), .inl⟩, ⟨h3, h4, by rw [if_pos sx]; exact h5⟩, h6, h7⟩
    rw [sx] at z
    exact wpAny_pure (wpAny_pure z)
  | none =>
    dsimp only
    have sx : S x = false := by
      cases c : S x with
      | false => rfl
      | true =>
        obtain ⟨e, he, hp⟩ := (h2 x).mp c
        have c2 := List.findIdx?_eq_none_iff.mp fi e he
        exact absurd hp (by rw [c2]; exact Bool.false_ne_true)
    have e1 := layNew_perm t u (kd.hash x) v
    have e2 := layNew_fits t u (kd.hash x) v
    have e3 := layNew_ris t u (kd.hash x) v h6
    have e4 := layNew_led t u (kd.hash x) v
    generalize layNew t u (kd.hash x) v = Y at e1 e2 e3 e4 ⊢
    obtain ⟨u1, t1, wd, gv⟩ := Y
    dsimp only at e1 e2 e3 e4 ⊢
    rw [Array.toList_push] at e1
    have m1 := mem_push_iff hk h2 e1
    have l1 : ElemsOf kd u1.toList := (h1.push hk hsc).perm e1
    have z1 : u1.size = n + 1 := by rw [← Array.length_toList, e1.length_eq, List.length_append, Array.length_toList, h5]; rfl
    have b1 : u1.size < scanBound := z1.symm ▸ room
    have l7 : ledOk w t1 := h7.imp id fun y => e4.trans y
    have fin : ∀ h', Heap.SameBut a s.heap h' → SQ kd h' a (fun j => S j || decide (j = x)) u1.size → Q true { s with heap := h' } := fun h' sb r => by
      have y := k h' sb
      rw [sx] at y
      rw [z1] at r
      exact y r
    refine wpAny_bind ?_
    have gw : ∀ (b : Bool) (s1 : Shared) (R1 : Unit → Shared → Prop), R1 () s1 → wpAny (model P w) A (match b with | true => rule "set.scan.the-table-gave-way" | false => pure ()) R1 E s1 := by
      intro b s1 R1 r
      cases b
      · exact wpAny_pure r
      · exact wpAny_rule r
    refine gw _ _ _ ?_
    split
    · refine wpAny_bind ?_
      rw [hashByValue_scannable 8 hsc]
      refine wpAny_pure (sq_tail gw ho hx hd l1 m1 b1 ?_ ?_ ?_ fun h' sb r => ?_)
      · split
        · exact e2
        · exact SetTable.fits_plain_off e2
      · split <;> exact e3
      · split <;> exact l7
      · exact wpAny_pure (fin h' sb r)
    · refine wpAny_bind (wpAny_pure ?_)
      rw [if_pos rfl]
      exact sq_tail gw ho hx hd l1 m1 b1 e2 e3 l7 fun h' sb r => wpAny_pure (fin h' sb r)
end
end D1

namespace D1
open PySem PySem.Spec L2 Rp PyProof.Rows
abbrev SQt (P : Program) (w : World) (h : Heap) (a : Addr) (xs : List Str) : Prop := SQ (PySem.strKind P w) h a (fun k => (dds xs).any fun y => y == k) (dds xs).length
section
variable {P : Program} {w : World} {A : Around} {R : Result → Shared → Prop} {it : Addr} {fp wr : List Addr} {Gm : Array GenState → Array GenState → Prop} {Pv : Nat → Value → Prop} {St : Nat → Shared → Prop}
theorem setLoopQ (xs : List Str) (W : WalksS P w A.in1 it fp wr Gm xs.length Pv St) (S : Addr) (hS0 : S ∉ fp) (hv : ∀ i v, Pv i v → ∃ x t, xs[i]? = some x ∧ v = .str x t) (hb : xs.length + 1 < scanBound)
    (m : Nat) : ∀ (i : Nat) (s : Shared), i + m = xs.length → St i s → SQt P w s.heap S (xs.take i) →
      (∀ s', Moved (S :: wr) Gm s s' → SQt P w s'.heap S (xs.take xs.length) → R (.ok (.ret .none)) s') →
      codeAny (model P w) A (.builtin "set.update.loop" ⟨[.ref S, .ref it], []⟩) R s := by
  have nw : S ∉ wr := fun h => hS0 (W.sub _ h)
  have sw : ∀ c ∈ wr, c ∈ S :: wr := fun c h => List.mem_cons_of_mem _ h
  have mv' : ∀ {xs : List Str} {s s1 : Shared}, Moved wr Gm s s1 → SQt P w s.heap S xs → SQt P w s1.heap S xs := fun {xs s s1} mv h => by
    obtain ⟨ob, es, ep, tb, ⟨h1, h1'⟩, h2⟩ := h
    exact ⟨ob, es, ep, tb, ⟨mv.heap S _ nw h1, h1'⟩, h2⟩
  induction m with
  | zero =>
    intro i s hi hst hs hR
    obtain rfl : i = xs.length := by omega
    refine codeAny_builtin PyProof.Rows.F.entry_set_update_loop ?_
    rw [Around.under_plainId PyProof.Rows.F.plain_set_update_loop _]
    show wpAny _ A.in1 (pyNext (.ref it) >>= _) _ _ s
    refine wpAny_bind (W.done s _ _ hst fun s1 mv => ?_)
    show wpAny _ A.in1 (ret Value.none) _ _ s1
    exact wpAny_pure (hR s1 (mv.mono sw) (mv' mv hs))
  | succ m ih =>
    intro i s hi hst hs hR
    refine codeAny_builtin PyProof.Rows.F.entry_set_update_loop ?_
    rw [Around.under_plainId PyProof.Rows.F.plain_set_update_loop _]
    show wpAny _ A.in1 (pyNext (.ref it) >>= _) _ _ s
    refine wpAny_bind (W.item i s _ _ (by omega) hst fun v s1 hP hst1 mv => ?_)
    obtain ⟨x, tk, hx, rfl⟩ := hv i v hP
    have hs1 : SQt P w s1.heap S (xs.take i) := mv' mv hs
    show wpAny _ A.in1 (holding [Value.str x tk] (setAdd S (.str x tk)) >>= _) _ _ s1
    refine wpAny_bind (wpAny_holding ?_)
    unfold setAdd
    refine wpAny_holding (wpAny_bind ((PySem.strKind P w).pyHash (k := x) (strKind_is _ _ _ _) ?_))
    have room : (dds (xs.take i)).length + 1 < scanBound := by
      have h1 := dds_len (xs.take i)
      have h2 : (xs.take i).length ≤ xs.length := by rw [List.length_take]; omega
      omega
    refine sq_add (kd := PySem.strKind P w) (s := { s1 with toks := s1.toks + 1 }) (strKind_is _ _ _ _) rfl hs1 room fun h2 sb hs2 => ?_
    have hs3 : SQt P w h2 S (xs.take (i + 1)) := hs2.congr (fun k => by rw [dds_snoc hx, dd_any]) (by rw [dds_snoc hx, dd_length]; split <;> rfl)
    refine wpAny_pure ⟨plainId_quiet PyProof.Rows.F.plain_set_update_loop _, ih (i + 1) _ (by omega) ?_ hs3 fun s3 mv3 hs4 => ?_⟩
    · refine W.frame _ s1 _ _ hst1 (Nat.le_succ _) fun c hc o e => ?_
      rw [sb.2 c (fun z : c = S => hS0 (by rw [← z]; exact hc))]
      exact e
    · refine hR s3 (Moved.trans W.gtrans ((mv.mono sw).then_heap (Nat.le_succ _) fun c o hc e => ?_) mv3) hs4
      rw [sb.2 c (fun z : c = S => hc (by rw [z]; exact List.mem_cons_self))]
      exact e
end
section
variable {P : Program} {w : World} {A : Around} {E : Value → Shared → Prop} {s : Shared}
abbrev newSetO (w : World) : Obj := { cls := .type "set", dict := none, data := .set #[] 0 (.fresh 0 0 (!w.params.followText "set-order")) }
theorem code_set_led1 (a : Value) {Q1 : Value → Shared → Prop} (h : Q1 (.ref s.heap.objs.size) { s with heap := s.heap.push (newSetO w) }) :
    codeAny (model P w) A (.call (.builtin "set.__new__") ⟨[.type "set", a], []⟩) (wants Q1 E) s := by
  refine codeAny_of_tree (show wpAny _ A.in1 (do { checkBuiltinCall "set.__new__" ⟨[.type "set", a], []⟩; again (.builtin "set.__new__" ⟨[.type "set", a], []⟩) }) _ _ s from ?_)
  refine wpAny_bind (wpAny_of_eq (PySem.F.newCall_set_1 a) (wpAny_pure ⟨plainId_quiet PySem.F.plain_set_new _, codeAny_builtin PySem.F.entry_set_new ?_⟩))
  rw [Around.under_plainId PySem.F.plain_set_new _]
  unfold Builtin.«set.__new__» Builtin.Frozenset.newClass
  have ss := sub_set_self
  obtain ⟨s1, s2, s3, s4, s5⟩ := s
  dsimp only
  wp_walk
  refine wpAny_askSetting (wpAny_pure ?_)
  dsimp only
  simp only [newObj]
  refine wpAny_bind (wpAny_alloc (wpAny_pure (wpAny_pure h)))
theorem sq_new {h : Heap} {a : Addr} (g : h.get? a = some (newSetO w)) : SQt P w h a [] :=
  ⟨_, #[], 0, _, ⟨g, ⟨rfl, rfl, rfl⟩, rfl⟩, (fun e he => (nomatch (show e ∈ ([] : List (Int × Value)) from he))), (fun k => ⟨(fun z => (nomatch z)), (fun ⟨e, he, _⟩ => (nomatch (show e ∈ ([] : List (Int × Value)) from he)))⟩), ⟨by decide, by rfl, rfl⟩, List.Pairwise.nil, by
    unfold ledOk
    show _ ∨ (!w.params.followText "set-order") = true
    cases w.params.followText "set-order" <;> simp⟩
theorem call_setSQ {l : Addr} {items : Array Value} (xs : List Str) {Q : Value → Shared → Prop} (hh : A.handled = none) (hl : s.heap.IsList l items) (hi : StrsAre items.toList xs) (hb : xs.length + 1 < scanBound)
    (k : ∀ (h' : Heap) (tk : Nat), SQt P w h' s.heap.objs.size xs → (∀ c o, c < s.heap.objs.size → s.heap.get? c = some o → h'.get? c = some o) → Q (.ref s.heap.objs.size) { s with heap := h', toks := tk }) :
    wpAny (model P w) A (call (.type "set") [.ref l]) Q E s := by
  have zz : xs.length = items.size := by rw [← StrsAre.len_eq hi, Array.length_toList]
  obtain ⟨_, _, aMro⟩ := PySem.F.called_set.mro
  have aMade := PySem.F.called_set.made
  have aSub := PySem.F.called_set.sub
  refine wpAny_call (codeAny_of_tree (show wpAny _ _ (callAny (.type "set") _) _ _ _ from wpAny_pure ⟨Code.quiet_builtin _ (by decide +kernel), codeAny_builtin PySem.F.entry_type_call ?_⟩))
  rw [Around.under_plain (weight_type_call_type "set" [.ref l] []) rfl]
  have aNot := PySem.F.called_set.notType
  have aCan := PySem.F.called_set.canCreate
  have aTc := PySem.F.typeCall_set_1 (.ref l)
  repeat (any_goals (first | assumption | wp_step))
  refine codeAny_mono (code_set_led1 (.ref l) (E := E) (Q1 := fun ob s1 => ob = .ref s.heap.objs.size ∧ s1 = { s with heap := s.heap.push (newSetO w) }) ⟨rfl, rfl⟩) fun r s1 hr => ?_
  match r, hr with
  | .error _, hr => exact hr
  | .ok .next, hr => exact hr.elim
  | .ok .brk, hr => exact hr.elim
  | .ok .cont, hr => exact hr.elim
  | .ok (.ret ob), ⟨e1, e2⟩ =>
    subst e1 e2
    have g0 := Heap.get?_push_size (o := newSetO w) s.heap rfl
    have tS : Shared.TypeIs { s with heap := s.heap.push (newSetO w) } (.ref s.heap.objs.size) "set" := ⟨_, g0, rfl⟩
    have aLi := PySem.F.called_set.init.lookup
    have aBi := PySem.F.called_set.init.bind (.ref s.heap.objs.size)
    repeat (any_goals (first | assumption | wp_step))
    refine codeAny_mono (codeAny_call_builtin (R := wants (fun r s2 => r = .none ∧ ∃ h' tk, s2 = { s with heap := h', toks := tk } ∧ SQt P w h' s.heap.objs.size xs ∧
      (∀ c o, c < s.heap.objs.size → s.heap.get? c = some o → h'.get? c = some o)) E) PySem.F.called_set.init.plain PySem.F.entry_set_init (check_set_init_1 tS ?_)) fun r2 s2 hr2 => ?_
    · obtain ⟨ol, gl, cl, nl, dl⟩ := hl
      obtain ⟨ocls, odict, odata, oslots⟩ := ol
      simp only at cl dl
      subst cl dl
      have gl1 : (s.heap.push (newSetO w)).get? l = some { cls := .type "list", dict := odict, data := .seq items nl, slots := oslots } :=
        Heap.get?_push_of_some _ gl
      have aLs := PySem.F.sub_list_set
      have aLf := PySem.F.sub_list_frozenset
      have aNe : (Value.type "list" == Value.type "dict") = false := by decide
      have hl1 : (s.heap.push (newSetO w)).IsList l items := ⟨_, gl1, rfl, nl, rfl⟩
      unfold Builtin.«set.__init__» noKeywords Builtin.Frozenset.updateFrom
      generalize hPI : pyIter = PI
      wp_walk
      subst hPI
      refine wpAny_pyIter_list hl1 (wpAny_bind (wpAny_runValue ?_))
      have lS : l < s.heap.objs.size := Heap.lt_size gl
      have h3 : A.in1.in1.in1.handled = none := by simp [hh]
      have lI : l ≠ (s.heap.push (newSetO w)).objs.size := by rw [Heap.size_push]; exact Nat.ne_of_lt (Nat.lt_succ_of_lt lS)
      have nS : s.heap.objs.size ∉ [(s.heap.push (newSetO w)).objs.size, l] := by
        rw [Heap.size_push]
        simp only [List.mem_cons, List.not_mem_nil, or_false, not_or]
        exact ⟨Nat.ne_of_lt (Nat.lt_succ_self _), Nat.ne_of_gt lS⟩
      have W := (Walks.list (prog := P) (w := w) h3 (s.heap.push (newSetO w)).objs.size l lI items).toS
      rw [← zz] at W
      refine setLoopQ xs W s.heap.objs.size nS (fun i v hv => ?_) hb xs.length 0 _ (by omega) ⟨⟨_, Heap.get?_push_size _ rfl, rfl, rfl⟩, hl1.push _⟩ ?_ fun s5 mv hs5 => ?_
      · obtain ⟨tk, ev⟩ := SS.strs_at hi i v (by rw [Array.getElem?_toList]; exact hv)
        have hlt : i < xs.length := by rw [zz]; exact (Array.getElem?_eq_some_iff.mp hv).1
        exact ⟨xs.getD i Str.empty, tk, by simp [List.getD, hlt], ev⟩
      · exact sq_new (Heap.get?_push_of_some _ g0)
      · obtain ⟨h5, g5, d5, t5, o5⟩ := s5
        obtain rfl : g5 = s.gens := mv.gens
        obtain rfl : d5 = s.drawn := mv.drawn
        obtain rfl : o5 = s.os := mv.os
        show wpAny _ _ _ _ _ _
        refine wpAny_pure ?_
        show wpAny _ _ (ret Value.none) _ _ _
        rw [List.take_length] at hs5
        refine wpAny_pure ⟨rfl, h5, t5, rfl, hs5, fun c o hc e => mv.heap c o ?_ (Heap.get?_push_of_some _ (Heap.get?_push_of_some _ e))⟩
        have n1 : c ≠ s.heap.objs.size := Nat.ne_of_lt hc
        have n2 : c ≠ (s.heap.push (newSetO w)).objs.size := by rw [Heap.size_push]; exact Nat.ne_of_lt (Nat.lt_succ_of_lt hc)
        simp only [List.mem_cons, List.not_mem_nil, or_false, not_or]
        exact ⟨n1, n2⟩
    · match r2, hr2 with
      | .error _, hr2 => exact hr2
      | .ok .next, hr2 => exact hr2.elim
      | .ok .brk, hr2 => exact hr2.elim
      | .ok .cont, hr2 => exact hr2.elim
      | .ok (.ret r), ⟨e1, h', tk, e2, hS', hk'⟩ =>
        subst e1 e2
        repeat (any_goals (first | assumption | wp_step))
        exact k _ _ hS' hk'
end
end D1

namespace D1
open PySem L2 Rp
section
variable {α β γ δ : Type} [Rp α] [Rp β] [Rp γ] [Rp δ] {X : Cx} {a b c e tg : Expr} {σ : St} {G : Hp} {pos p q px : Pos} {rest : List Stmt}
/-- y = [..] on one line, y a local name; among steps that write -/
theorem ws_asgLc (i : Nat) {y : Str} {py spos : Pos} {elt iter : Expr} {ifs : List Expr} {scope : Scope} {own : List (Str × Nat)} {l : List γ} {f : γ → δ} {t : γ → Bool} {g : TG} {B : γ → Hp → St → St → Prop} {G1 H1 : Hp} {D : Ends} (s1 : Same G G1) (s2 : Same G1 H1)
    (hi : EI X tg iter σ G l) (hB : TgB g B) (hg : ∀ (s : Shared) (H : Hp) (C : Addr) (cl : List (Str × Addr)) (fp : List Addr), PG (BK X s H scope C cl fp) tg g)
    (ht : ∀ c ∈ l, ∀ G' σ', Same G G' → B c G' (wipe σ (own.map (·.2))) σ' → ∀ s H C cl fp, ETs (BK X s H scope C cl fp) ifs σ' G' (t c))
    (he : ∀ c ∈ l, t c = true → ∀ G' σ', Same G G' → B c G' (wipe σ (own.map (·.2))) σ' → ∀ s H C cl fp, Ev (BK X s H scope C cl fp) elt σ' G' (f c))
    (hw : ∀ c G' σ', B c G' (wipe σ (own.map (·.2))) σ' → wipe σ' (own.map (·.2)) = wipe σ (own.map (·.2)))
    (hz : l.length < sizeLine) (hN : X.N.Nodup) (ok : BlkOk X.N X.env.scope scope own)
    (k : ∀ G2 H2 v, Gr G1 H1 G2 H2 → rp G2 v ((l.filter t).map f) → WS X rest D (σ.set i (some v)) H2)
    (hsw : swapsWith (.ListComp elt [⟨tg, iter, ifs, 0⟩] scope pos) (some (.Name y py)) spos.line X.env = pure true := by rfl) (hc : X.calm = true := by rfl) (hy : X.N[i]? = some y := by rfl) (hyl : X.env.scope.names.lookup y = some .local := by rfl) (hs : ∀ x, foldedSetIterable iter X.env x = pure x := by intro _; rfl) :
    WS X (.Assign [.Name y py] (.ListComp elt [⟨tg, iter, ifs, 0⟩] scope pos) spos :: rest) D σ H1 :=
  WS.cons (ps_setLc (tt := ATs X scope ifs) (te := AE X scope elt) hc hN hy hyl hsw pi_wi ok hg (fun s H C cl fp => ⟨fun pins s1 σ' H' Q' I h => h s H C cl fp pins s1 I⟩) (fun s H C cl fp => ⟨fun pins s1 σ' H' Q' I h => h s H C cl fp pins s1 I⟩) hs)
    (hi G1 H1 _ s1 s2 fun J S Y G2 H2 g2 w hS hY L hL => lc_data (Qd := fun v H3 => WS X rest D (σ.set i (some v)) H3) w hS hY hB hw
      (fun c hc' G' σ' sG b H' Q' s3 k' s H C cl fp pins s1' I => ht c hc' G' σ' ((s1.trans g2.g).trans sG) b s H C cl fp G' H' Q' (Same.refl _) s3 k' pins s1' I)
      (fun c hc' tc G' σ' sG b G1' H' Q' s3 s4 k' s H C cl fp => he c hc' tc G' σ' ((s1.trans g2.g).trans sG) b s H C cl fp G1' H' Q' s3 s4 k')
      hz g2.s hL fun G3 H3 v g3 r => k G3 H3 v (g2.trans g3) r)
theorem ws_asgMap (i j : Nat) {x y : Str} {py spos : Pos} {elt iter : Expr} {scope : Scope} {l : List γ} {f : γ → δ} {G1 H1 : Hp} {D : Ends} (s1 : Same G G1) (s2 : Same G1 H1) (hi : EI X (.Name x px) iter σ G l)
    (he : ∀ d ∈ l, ∀ G' v, Same G G' → rp G' v d → ∀ s H C cl fp, Ev (BK X s H scope C cl fp) elt ((wipe σ [j]).set j (some v)) G' (f d))
    (hz : l.length < sizeLine) (hN : X.N.Nodup) (ok : BlkOk X.N X.env.scope scope [(x, j)]) (k : ∀ G2 H2 v, Gr G1 H1 G2 H2 → rp G2 v (l.map f) → WS X rest D (σ.set i (some v)) H2)
    (hsw : swapsWith (.ListComp elt [⟨.Name x px, iter, [], 0⟩] scope pos) (some (.Name y py)) spos.line X.env = pure true := by rfl) (hx : X.N[j]? = some x := by rfl) (lx : Loc (relS scope X.env.scope) x := by first | exact Or.inl rfl | exact Or.inr rfl)
    (fx : (scope.names.lookup x == some .cell) = true ∨ (relS scope X.env.scope).names.lookup x = some .local := by first | exact .inr rfl | exact .inl rfl) (hc : X.calm = true := by rfl) (hy : X.N[i]? = some y := by rfl) (hyl : X.env.scope.names.lookup y = some .local := by rfl) (hs : ∀ x, foldedSetIterable iter X.env x = pure x := by intro _; rfl) :
    WS X (.Assign [.Name y py] (.ListComp elt [⟨.Name x px, iter, [], 0⟩] scope pos) spos :: rest) D σ H1 :=
  ws_asgLc i (own := [(x, j)]) (f := f) (t := fun _ => true) s1 s2 hi tgB1 (fun _ _ _ _ _ => pg_name hN hx lx fx) (fun d hd G' σ' s1 _ s H C cl fp => ETs.nil) (fun d hd td G' σ' s1 ⟨v, r, e⟩ s H C cl fp => e ▸ he d hd G' v s1 r s H C cl fp) (fun _ _ _ b => wipe_b1 b) hz hN ok
    (fun G2 H2 v g r => k G2 H2 v g (by rwa [filter_yes] at r)) hsw hc hy hyl hs
end
end D1

namespace D1
open PySem PySem.Spec L2 Rp PyProof.Rows
section
variable {P : Program} {w : World} {A : Around} {E : Value → Shared → Prop} {s : Shared} {a : Addr}
theorem isStr_at {k : Str} {v : Value} : (PySem.strKind P w).is k v = true ↔ ∃ t, v = .str k t := by
  show Value.isStrOf k v = true ↔ _
  constructor
  · intro h
    exact Value.isStrOf_shape h
  · rintro ⟨t, rfl⟩
    simp [Value.isStrOf]
theorem sorted_setS {xs : List Str} {Q : Value → Shared → Prop} (R : SQt P w s.heap a xs) (hh : A.handled = none) (h64 : (dds xs).length < 64)
    (k : ∀ s' p (out : Array Value) (c : Nat), (∀ b o, s.heap.get? b = some o → s'.heap.get? b = some o) → s'.gens = s.gens → s'.os = s.os → s.heap.objs.size ≤ p → s'.heap.get? p = some (seqObj "list" out c) → StrsAre out.toList (sortS (dds xs)) → Q (.ref p) s') :
    wpAny (model P w) A (call (.builtin "sorted") [.ref a]) Q E s := by
  obtain ⟨o, u, ep, t, ⟨ho, hx, hd⟩, h1, h2, ⟨h3, h4, h5⟩, h6, h7⟩ := R
  refine Calls.call_function_entry kind_sorted plain_sorted entry_sorted (args_sorted1 _) ?_
  unfold Builtin.«sorted»
  refine wpAny_bind (m := checkCount "sorted" 1 1 _) (wpAny_pure ?_)
  refine wpAny_bind (collect_set (A := A.in1) hh ⟨o, ho, hx.1, hd⟩ h4 h3 h6 h7 fun s1 vs k1 hz g1 o1 pm => ?_)
  have hvl : vs.length = (dds xs).length := by rw [pm.length_eq, List.length_map, Array.length_toList]; exact h5
  have hstr : ∀ v ∈ vs, ∃ x tk, v = Value.str x tk := fun v hv => by
    obtain ⟨e, he, q⟩ := List.mem_map.mp (pm.mem_iff.mp hv)
    obtain ⟨⟨y, hy, _⟩, _⟩ := h1 e he
    obtain ⟨tk, ht⟩ := isStr_at.mp hy
    exact ⟨y, tk, q ▸ ht⟩
  have hS : StrsAre vs (vs.map strOf) := strsAre_map vs hstr
  have pd : (dds xs).Perm (vs.map strOf) := by
    refine perm_sub2 (nodup_dds xs) (fun y hy => ?_) (by rw [List.length_map, hvl]; exact Nat.le_refl _)
    have hy2 : ((dds xs).any fun z => z == y) = true := List.any_eq_true.mpr ⟨y, hy, by simp⟩
    obtain ⟨e, he, q⟩ := (h2 y).mp hy2
    obtain ⟨tk, ht⟩ := isStr_at.mp q
    exact List.mem_map.mpr ⟨e.2, pm.mem_iff.mpr (List.mem_map.mpr ⟨e, he, rfl⟩), by rw [ht]; rfl⟩
  refine wpAny_bind (wpAny_newList ?_ (by rw [hvl, sizeLine_eq]; omega))
  have hL := Heap.get?_push_size (o := seqObj "list" vs.toArray 0) s1.heap rfl
  refine wpAny_bind (wpAny_holding (wpAny_call_entry slot_list_sort ⟨_, hL, rfl⟩ entry_list_sort (list_sort_treeK strKind_oneLt hL hS.keysOf (fun v1 v2 r e => keyKind_strs (by rw [← e]; exact hS)) (by rw [hvl]; exact h64) fun st hp hs => ⟨_, rfl, ?_⟩) (args_list_sort _)))
  obtain ⟨ss, a1, a2, a3⟩ := sorted_out_str hS hp hs
  obtain ⟨c, hc⟩ := sortedHeap_at (vs := vs) (out := (arrOf st).map (·.2)) hL
  have es : ss = sortS (dds xs) := (sortS_eq (a2.trans pd.symm) (sortedS_pw a3)).symm
  subst es
  refine wpAny_pure ⟨_, rfl, k _ s1.heap.objs.size _ c (fun b y e => ?_) g1 o1 hz hc a1⟩
  have q := k1 b y e
  have lt := Heap.lt_size q
  refine Eq.trans (sortedHeap_old (Nat.ne_of_lt lt) ?_) (Heap.get?_push_of_some _ q)
  rw [size_push']
  exact Nat.lt_succ_of_lt lt
end
section
variable {X : Cx} {a e : Expr} {σ : L2.St} {G : Hp} {p q pos tpos : Pos}
def tSortSet (K : PySem.W.Frag) (ta : TE) : TE := fun σ H Q => ta σ H fun x H1 => ∃ (l : Addr) (xs : List Str), x = .ref l ∧ SqL K H1 l (xs.map V.str) ∧ xs.length < 64 ∧ ∀ p, H1 p = none → Q (.ref p) (upd H1 p (.lst ((sortS (dds xs)).map V.str)))
theorem pe_sortSet {ta : TE} (hc : X.calm = true) (hg : Gl X "sorted") (hm : X.mg "sorted" = none) (hg2 : Gl X "set") (hm2 : X.mg "set" = none) (ha : PE X a ta) (na : starEach [a] X.env = (false, eval a X.env) :: starEach [] X.env := by rfl) :
    PE X (.Call (.Name "sorted" p) [.Call (.Name "set" q) [a] [] tpos] [] pos) (tSortSet X.K ta) := by
  refine ⟨fun pins s σ H Q I h => PyProof.Rows.Call_ (ld_blt I hg hm boot_sorted' (PyProof.Rows.callWith_builtin1 (PyProof.Rows.args_cons (PyProof.Rows.Call_ (ld_blt I hg2 hm2 boot_set' ?_)) rfl) rfl rfl))⟩
  refine PyProof.Rows.callWith_type1 (PyProof.Rows.args_cons (thn (ha.run pins s σ H _ I h) fun v s1 ⟨x, H1, I1, r1, q1⟩ => PyProof.Rows.args_nil ?_) na) na rfl
  obtain ⟨l, xs, rfl, hq, hb, q1⟩ := q1
  cases r1
  obtain ⟨its, r, pl, hz⟩ := I1.list hq
  refine call_setSQ xs (I1.ok.hd hc) pl.isList (by simpa using strsAre_of r) (by unfold scanBound; omega) fun h' tk hS hk => PyProof.Rows.args_nil ?_
  have I2 : Inv X pins σ H1 { s1 with heap := h', toks := tk } := I1.kept fun b o e => hk b o (Heap.lt_size e) e
  have hdl := dds_len xs
  refine sorted_setS hS (I2.ok.hd hc) (by omega) fun s' p out c k g o hp hg hi => ?_
  have hlen : ((sortS (dds xs)).map V.str).length ≤ sizeLine := by rw [List.length_map, sortS_length, sizeLine_eq]; omega
  have hn : H1 p = none := I2.hok.fresh hp
  obtain ⟨s'1, s'2, s'3, s'4, s'5⟩ := s'
  have es5 : s'5 = s1.os := o
  subst es5
  have J : Inv X pins σ (upd H1 p (.lst ((sortS (dds xs)).map V.str))) { { s1 with heap := h', toks := tk } with heap := s'1, gens := s'2, drawn := s'3, toks := s'4 } :=
    I2.call (ch := []) (Un.laid k hp hn) (I2.hok.laid k hp ⟨hlen, out.toList, c, vals_of_strs hi, hg⟩) (by rw [show s'2 = s1.gens from g]; exact I2.bare) (fun _ z => (nomatch z))
  exact ⟨.ref p, _, J, rfl, q1 p hn⟩
theorem Ev.sortedSet {l : List Str} (B : Bt X.mg) (h : Ev X a σ G l) (hb : l.length < 64) (hc : X.calm = true := by rfl) (hg : Gl X "sorted" := by rfl) (hg2 : Gl X "set" := by rfl) (na : starEach [a] X.env = (false, eval a X.env) :: starEach [] X.env := by rfl) :
    Ev X (.Call (.Name "sorted" p) [.Call (.Name "set" q) [a] [] tpos] [] pos) σ G (sortS (dds l)) := fun G1 H1 Q s1 s2 k =>
  WE.of (pe_sortSet hc hg B.sorted hg2 B.set pe_we na) (h G1 H1 _ s1 s2 fun G2 H2 v g r => by
    obtain ⟨q, xs, rfl, h1, pr⟩ := r
    have e1 := strs_of pr
    subst e1
    refine ⟨q, l, rfl, SqL.of (g.s _ _ h1), hb, fun p' hp => ?_⟩
    have g2 := Gr.new (o := .lst ((sortS (dds l)).map V.str)) g.s hp
    exact k _ _ _ (g.trans g2) ⟨p', _, rfl, upd_same, strs_to _⟩)
end
end D1

namespace D1
open PySem L2 Rp Da
section
variable {α β γ δ : Type} [Rp α] [Rp β] [Rp γ] [Rp δ] {X : Cx} {a b c e tg : Expr} {σ : St} {G : Hp} {pos p q px : Pos} {rest : List Stmt}
/-- while c: body; I: the measure, then what holds -/
theorem ws_while {body : List Stmt} {H1 : Hp} {D : Ends} (I : Nat → St → Hp → Hp → Prop) (m0 : Nat) (h0 : ∃ G1, Same G1 H1 ∧ I m0 σ G1 H1)
    (hs : ∀ m σ1 G2 H2, Same G2 H2 → I m σ1 G2 H2 → WT X c σ1 H2 fun z H3 => if z = true then
      WS X body { nx := fun σ' H' => ∃ m' G', m' < m ∧ Same G' H' ∧ I m' σ' G' H', rt := D.rt, ct := fun σ' H' => ∃ m' G', m' < m ∧ Same G' H' ∧ I m' σ' G' H', bk := fun σ' H' => WS X rest D σ' H' } σ1 H3 else WS X rest D σ1 H3)
    (hp : PassesOwn (model X.prog X.w) X.A X.env X.xe := by exact PassesOwn.never) : WS X (.While c body [] pos :: rest) D σ H1 :=
  WS.cons (ps_while hp pt_wt pss_ws) ⟨fun m σ' H' => ∃ G', Same G' H' ∧ I m σ' G' H', ⟨m0, h0⟩, fun m σ1 H2 ⟨G2, s2, i2⟩ pins s Iv =>
    wpAny_mono (hs m σ1 G2 H2 s2 i2 pins s Iv) (fun z s' hz => by
      obtain ⟨H3, I3, q⟩ := hz
      refine ⟨H3, I3, ?_⟩
      cases z with
      | true => exact ⟨fun σ' H' => ∃ m' G', m' < m ∧ Same G' H' ∧ I m' σ' G' H', fun σ' H' ⟨m', G', lt, s', i'⟩ => ⟨m', lt, G', s', i'⟩, q⟩
      | false => exact q) fun _ _ z => z⟩
/-- [*xs, ..] -/
theorem EL.star {es : List Expr} {xs ys : List α} (h : Ev X e σ G xs) (t : EL X es σ G ys) (hs : starEach (.Starred e p :: es) X.env = (true, eval e X.env) :: starEach es X.env := by rfl) : EL X (.Starred e p :: es) σ G (xs ++ ys) := fun G1 H1 Q s1 s2 k pos pins s I =>
  (StX.pa_star (te := WE X e) (t := fun σ' H' Q' => ∀ pos pins s, Inv X pins σ' H' s → wpAny (model X.prog X.w) X.A (spliced (backTo pos (starEach es X.env))) (AP X pins σ' Q') X.xe s) pe_we ⟨fun pos pins s σ H Q I h => h pos pins s I⟩ hs).run pos pins s σ H1 Q I
    (h G1 H1 _ s1 s2 fun G2 H2 v g r => by
      obtain ⟨q, vs, rfl, h1, pr⟩ := r
      exact ⟨q, vs, rfl, .inr (SqL.of (g.s _ _ h1)), t G2 H2 _ (s1.trans g.g) g.s fun G3 H3 us g2 r2 => k G3 H3 (vs ++ us) (g.trans g2) (r2_cat.PairedAppend (pmono pr fun _ _ => rup g2.g) r2)⟩)
/-! ### lists of unlike things -/
structure M2 (α β : Type) where
  a : α
  b : β
structure M3 (α β γ : Type) where
  a : α
  b : β
  c : γ
instance : Rp (M2 α β) := ⟨fun H v t => ∃ p x y, v = .ref p ∧ H p = some (.lst [x, y]) ∧ rp H x t.a ∧ rp H y t.b, fun s ⟨p, x, y, e, h, q, r⟩ => ⟨p, x, y, e, s _ _ h, rup s q, rup s r⟩⟩
instance : Rp (M3 α β γ) := ⟨fun H v t => ∃ p x y z, v = .ref p ∧ H p = some (.lst [x, y, z]) ∧ rp H x t.a ∧ rp H y t.b ∧ rp H z t.c, fun s ⟨p, x, y, z, e, h, q, r, u⟩ => ⟨p, x, y, z, e, s _ _ h, rup s q, rup s r, rup s u⟩⟩
instance [Da α] [Da β] : Da (M2 α β) := ⟨fun t => .list [toD t.a, toD t.b], fun t => lay t.a ∧ lay t.b, max (dep α) (dep β) + 1,
  fun ⟨p, x, y, e, h, q, r⟩ => by subst e; exact .lst (SqL.of h) (.cons (dp q) (.cons (dp r) .nil)),
  fun t h => by simp only [PyData.canLay0, PyData.canLayAll0, Bool.and_eq_true]; exact ⟨can _ h.1, can _ h.2, trivial⟩,
  fun t => by
    simp only [PyData.depth, PyData.depthAll]
    have h1 := dpt t.a
    have h2 := dpt t.b
    omega⟩
instance [Da α] [Da β] [Sh α] [Sh β] : Sh (M2 α β) := ⟨fun t => Sh.cost t.a + Sh.cost t.b + 6, fun t h => by
    show PyData.showable (.list [toD t.a, toD t.b]) = true
    simp only [PyData.showable, PyData.showableAll, Bool.and_true, Bool.and_eq_true]
    exact ⟨Sh.sh t.a h.1, Sh.sh t.b h.2⟩, fun t h => by
    show (PyData.shown (.list [toD t.a, toD t.b])).length ≤ _
    simp only [PyData.shown, PyData.shownAll]
    have h1 := listText_le [(toD t.a).shown, (toD t.b).shown]
    have h2 := Sh.le t.a h.1
    have h3 := Sh.le t.b h.2
    simp only [piled_cons, piled_nil] at h1
    omega, fun t => .inl ⟨_, rfl⟩⟩
theorem Ev.lst2 {x : α} {y : β} (ha : Ev X a σ G x) (hb : Ev X b σ G y) (hs : starEach [a, b] X.env = (false, eval a X.env) :: starEach [b] X.env := by rfl) (hs2 : starEach [b] X.env = (false, eval b X.env) :: starEach [] X.env := by rfl) : Ev X (.List [a, b] pos) σ G (M2.mk x y) := fun G1 H1 Q s1 s2 k =>
  WE.of (pe_lst (pa_cons pe_we (pa_cons pe_we pa_nil hs2) hs)) (ha G1 H1 _ s1 s2 fun G2 H2 v g r => hb G2 H2 _ (s1.trans g.g) g.s fun G3 H3 u g2 r2 => ⟨small_sz (n := 2), fun q hq => by
    have g3 := Gr.new (o := .lst [v, u]) g2.s hq
    exact k _ _ _ ((g.trans g2).trans g3) ⟨q, v, u, rfl, upd_same, rup (g2.trans g3).g r, rup g3.g r2⟩⟩)
theorem we_lst3 {H : Hp} {Q : VK} (h : WE X a σ H fun u H1 => WE X b σ H1 fun v H2 => WE X c σ H2 fun w H3 => ∀ q, H3 q = none → Q (.ref q) (upd H3 q (.lst [u, v, w])))
    (hs : starEach [a, b, c] X.env = (false, eval a X.env) :: starEach [b, c] X.env := by rfl) (hs1 : starEach [b, c] X.env = (false, eval b X.env) :: starEach [c] X.env := by rfl) (hs2 : starEach [c] X.env = (false, eval c X.env) :: starEach [] X.env := by rfl) : WE X (.List [a, b, c] pos) σ H Q :=
  WE.of (pe_lst (pa_cons pe_we (pa_cons pe_we (pa_cons pe_we pa_nil hs2) hs1) hs)) (WE.mono h fun u H1 h1 => WE.mono h1 fun v H2 h2 => WE.mono h2 fun w H3 h3 => ⟨small_sz (n := 3), h3⟩)
/-- a, b, c = a list of three -/
theorem pg_threeL {i j l : Nat} {x y z : Str} {px py pz pt : Pos} {kt} (hc : X.calm = true) (hN : X.N.Nodup) (hi : X.N[i]? = some x) (hj : X.N[j]? = some y) (hl : X.N[l]? = some z) (hx : Loc X.env.scope x) (hy : Loc X.env.scope y) (hz : Loc X.env.scope z)
    (fx : X.fn x = true ∨ X.env.scope.names.lookup x = some .local) (fy : X.fn y = true ∨ X.env.scope.names.lookup y = some .local) (fz : X.fn z = true ∨ X.env.scope.names.lookup z = some .local)
    (h1 : (assignEach [.Name x px, .Name y py, .Name z pz] X.env).map (·.2) = assign (.Name x px) X.env :: (assignEach [.Name y py, .Name z pz] X.env).map (·.2) := by rfl) (h2 : (assignEach [.Name y py, .Name z pz] X.env).map (·.2) = assign (.Name y py) X.env :: (assignEach [.Name z pz] X.env).map (·.2) := by rfl)
    (h3 : (assignEach [.Name z pz] X.env).map (·.2) = assign (.Name z pz) X.env :: (assignEach [] X.env).map (·.2) := by rfl)
    (hn : (assignEach [.Name x px, .Name y py, .Name z pz] X.env).length = 3 := by rfl) (hst : (assignEach [.Name x px, .Name y py, .Name z pz] X.env).findIdx? (·.1) = none := by rfl) :
    PG X (.Tuple [.Name x px, .Name y py, .Name z pz] kt pt) (gLst X.K 3 (gCons (gName i) (gCons (gName j) (gCons (gName l) gNil)))) := pg_lst hc (pgs_cons (pg_name hN hi hx fx) (pgs_cons (pg_name hN hj hy fy) (pgs_cons (pg_name hN hl hz fz) pgs_nil h3) h2) h1) hn hst
/-- a, b, c = e, where e hands back a list of three -/
theorem ws_asg3L (i j l : Nat) {x y z : Str} {px py pz pt : Pos} {kt} {H1 : Hp} {D : Ends} (h : WE X e σ H1 fun v H2 => ∃ p u w t, v = .ref p ∧ H2 p = some (.lst [u, w, t]) ∧ WS X rest D (((σ.set i (some u)).set j (some w)).set l (some t)) H2)
    (hN : X.N.Nodup) (hc : X.calm = true := by rfl) (hi : X.N[i]? = some x := by rfl) (hj : X.N[j]? = some y := by rfl) (hl : X.N[l]? = some z := by rfl) (hx : Loc X.env.scope x := by first | exact Or.inl rfl | exact Or.inr rfl) (hy : Loc X.env.scope y := by first | exact Or.inl rfl | exact Or.inr rfl) (hz : Loc X.env.scope z := by first | exact Or.inl rfl | exact Or.inr rfl)
    (fx : X.fn x = true ∨ X.env.scope.names.lookup x = some .local := by first | exact .inl rfl | exact .inr rfl) (fy : X.fn y = true ∨ X.env.scope.names.lookup y = some .local := by first | exact .inl rfl | exact .inr rfl) (fz : X.fn z = true ∨ X.env.scope.names.lookup z = some .local := by first | exact .inl rfl | exact .inr rfl)
    (h1 : (assignEach [.Name x px, .Name y py, .Name z pz] X.env).map (·.2) = assign (.Name x px) X.env :: (assignEach [.Name y py, .Name z pz] X.env).map (·.2) := by rfl) (h2 : (assignEach [.Name y py, .Name z pz] X.env).map (·.2) = assign (.Name y py) X.env :: (assignEach [.Name z pz] X.env).map (·.2) := by rfl)
    (h3 : (assignEach [.Name z pz] X.env).map (·.2) = assign (.Name z pz) X.env :: (assignEach [] X.env).map (·.2) := by rfl)
    (hn : (assignEach [.Name x px, .Name y py, .Name z pz] X.env).length = 3 := by rfl) (hst : (assignEach [.Name x px, .Name y py, .Name z pz] X.env).findIdx? (·.1) = none := by rfl)
    (hs : swapsWithSole [.Tuple [.Name x px, .Name y py, .Name z pz] kt pt] e pos.line X.env = pure false := by rfl) (hw : swappedStores [.Tuple [.Name x px, .Name y py, .Name z pz] kt pt] e X.env = pure none := by rfl) (ha : (assignEach [.Tuple [.Name x px, .Name y py, .Name z pz] kt pt] X.env).map (·.2) = [assign (.Tuple [.Name x px, .Name y py, .Name z pz] kt pt) X.env] := by rfl) :
    WS X (.Assign [.Tuple [.Name x px, .Name y py, .Name z pz] kt pt] e pos :: rest) D σ H1 :=
  WS.cons (ps_asg pe_we (pg_threeL hc hN hi hj hl hx hy hz fx fy fz h1 h2 h3 hn hst) hs hw ha) (WE.mono h fun v H2 ⟨p, u, w, t, e1, e2, k⟩ => by
    subst e1
    exact ⟨p, [u, w, t], rfl, SqL.of e2, rfl, u, _, rfl, w, _, rfl, t, _, rfl, rfl, k⟩)
/-! ### subscripts of pairs -/
theorem Ev.ix20 {t : α × β} {j ip} (ha : Ev X a σ G t) : Ev X (.Subscript a (.Constant (.int 0) j ip) pos) σ G t.1 := fun G1 H1 Q s1 s2 k =>
  WE.of (pe_ix ix_tup pe_we pe_int (fun _ _ => rfl)) (ha G1 H1 _ s1 s2 fun G2 H2 v g r => by
    obtain ⟨q, x, y, rfl, h1, r1, r2⟩ := r
    exact ⟨q, [x, y], 0, x, rfl, rfl, SqT.of (g.s _ _ h1), rfl, k _ _ _ g r1⟩)
theorem Ev.ix21 {t : α × β} {j ip} (ha : Ev X a σ G t) : Ev X (.Subscript a (.Constant (.int 1) j ip) pos) σ G t.2 := fun G1 H1 Q s1 s2 k =>
  WE.of (pe_ix ix_tup pe_we pe_int (fun _ _ => rfl)) (ha G1 H1 _ s1 s2 fun G2 H2 v g r => by
    obtain ⟨q, x, y, rfl, h1, r1, r2⟩ := r
    exact ⟨q, [x, y], 1, y, rfl, rfl, SqT.of (g.s _ _ h1), rfl, k _ _ _ g r2⟩)
/-! ### repr of truth values -/
def showB (z : Bool) : Str := ((if z then "True" else "False" : String) : Str)
theorem cr_reprB : CallR X (.builtin "repr") (fun vs H Q => ∃ z : Bool, vs = [.bl z] ∧ Q (.str (showB z)) H) := by
  intro pins s σ H vs us Q I r h
  obtain ⟨z, rfl, q⟩ := h
  obtain ⟨u, rfl, ru⟩ := vals1 r
  cases ru
  refine PySem.P.repr_of_bool ⟨.str (showB z), H, I.tok _, ⟨s.toks, ?_⟩, q⟩
  unfold showB
  cases z <;> rfl
theorem Ev.reprB {z : Bool} (hm : X.mg "repr" = none) (h : Ev X e σ G z) (hg : Gl X "repr" := by rfl) (hs : starEach [e] X.env = (false, eval e X.env) :: starEach [] X.env := by rfl) (hpl : (backTo pos (starEach [] X.env)).any (·.1) = false := by rfl) : Ev X (.Call (.Name "repr" p) [e] [] pos) σ G (showB z) :=
  Ev.b1 cr_reprB (by decide +kernel) (fun G H v Q s r k => by cases r; exact ⟨z, rfl, k _ _ _ (GrM.refl s) rfl⟩) hm h hg (by decide) (by decide) hs hpl
theorem showB_inj {y z : Bool} : showB y = showB z ↔ y = z := by
  cases y <;> cases z <;> simp [showB] <;> decide +kernel
/-- list(range(n)) -/
theorem Ev.listRange {n : Int} (B : Bt X.mg) (h : Ev X e σ G n) (hn : 0 ≤ n ∧ n < 1000) (hc : X.calm = true := by rfl) (hg : Gl X "list" := by rfl) (hg2 : Gl X "range" := by rfl) (hs : starEach [e] X.env = (false, eval e X.env) :: starEach [] X.env := by rfl)
    (hs2 : starEach [.Call (.Name "range" q) [e] [] px] X.env = (false, eval (.Call (.Name "range" q) [e] [] px) X.env) :: starEach [] X.env := by rfl) : Ev X (.Call (.Name "list" p) [.Call (.Name "range" q) [e] [] px] [] pos) σ G (upto n.toNat) := fun G1 H1 Q s1 s2 k =>
  WE.of (pe_listRg hc hg B.list (prg_1 hg2 B.range pe_we hs) hs2) (h G1 H1 _ s1 s2 fun G2 H2 v g r => by
    cases r
    refine ⟨n, rfl, ⟨by omega, by omega, by omega, by omega, by omega⟩, fun q hq => ?_⟩
    have g2 := Gr.new (o := .lst (rgV 0 n)) g.s hq
    refine k _ _ _ (g.trans g2) ⟨q, _, rfl, upd_same, ?_⟩
    have e1 : rgV 0 n = (upto n.toNat).map V.int := by
      unfold rgV upto
      rw [List.map_map, Int.sub_zero]
      exact List.map_congr_left fun i _ => by simp
    rw [e1]
    exact ints_to _)
/-- a and b, where b changes things -/
theorem wt_and2 {H : Hp} {Q : Bool → Hp → Prop} (h : WT X a σ H fun y H1 => if y = true then WT X b σ H1 Q else Q false H1) : WT X (.BoolOp .And [a, b] pos) σ H Q := fun pins s I => WW.of (pw_and pt_wt (pw_and1 pt_wt)) h _ pins s I
end
end D1

namespace D1
open PySem L2 Rp Da
/-- never None -/
class Nn1 (α : Type) [Rp α] : Prop where
  nn : ∀ {H : Hp} {v : V} {a : α}, rp H v a → v ≠ .non
instance : Nn1 Int := ⟨fun h e => by cases h; cases e⟩
instance : Nn1 Bool := ⟨fun h e => by cases h; cases e⟩
instance : Nn1 Str := ⟨fun h e => by cases h; cases e⟩
instance {α : Type} [Rp α] : Nn1 (List α) := ⟨fun ⟨p, _, e, _⟩ h => by subst e; cases h⟩
instance {α β : Type} [Rp α] [Rp β] : Nn1 (α × β) := ⟨fun ⟨p, _, _, e, _⟩ h => by subst e; cases h⟩
instance {α β γ : Type} [Rp α] [Rp β] [Rp γ] : Nn1 (T3 α β γ) := ⟨fun ⟨p, _, _, _, e, _⟩ h => by subst e; cases h⟩
section
variable {α β γ δ : Type} [Rp α] [Rp β] [Rp γ] [Rp δ] {X : Cx} {a b c e tg : Expr} {σ : St} {G : Hp} {pos p q px : Pos} {rest : List Stmt}
theorem isN_val [Nn1 α] {G : Hp} {v : V} {o : Option α} (h : rp G v o) : decide (v = .non) = o.isNone := by
  cases o with
  | none => cases (show v = .non from h); rfl
  | some a => exact decide_eq_false (Nn1.nn (show rp G v a from h))
theorem Ev.isN [Nn1 α] {o : Option α} {j} (h : Ev X e σ G o) : Ev X (.Compare e [.Is] [.Constant .none j q] pos) σ G o.isNone :=
  Ev.cmp op_isN (nomark _) (fun G H u v Q s r1 r2 k => by cases r2; exact ⟨rfl, by rw [isN_val r1]; exact k _ _ _ (GrM.refl s) rfl⟩) h Ev.non
theorem Ev.notN [Nn1 α] {o : Option α} {j} (h : Ev X e σ G o) : Ev X (.Compare e [.IsNot] [.Constant .none j q] pos) σ G (!o.isNone) :=
  Ev.cmp op_notN (nomark _) (fun G H u v Q s r1 r2 k => by cases r2; exact ⟨rfl, by rw [isN_val r1]; exact k _ _ _ (GrM.refl s) rfl⟩) h Ev.non
theorem ET.isN [Nn1 α] {o : Option α} {j} (h : Ev X e σ G o) : ET X (.Compare e [.Is] [.Constant .none j q] pos) σ G o.isNone :=
  ET.cmp op_isN (nomark _) (fun G H u v Q s r1 r2 k => by cases r2; exact ⟨rfl, by rw [isN_val r1]; exact k _ _ _ (GrM.refl s) rfl⟩) h Ev.non
theorem ET.notN [Nn1 α] {o : Option α} {j} (h : Ev X e σ G o) : ET X (.Compare e [.IsNot] [.Constant .none j q] pos) σ G (!o.isNone) :=
  ET.cmp op_notN (nomark _) (fun G H u v Q s r1 r2 k => by cases r2; exact ⟨rfl, by rw [isN_val r1]; exact k _ _ _ (GrM.refl s) rfl⟩) h Ev.non
/-- x is True, x a truth value -/
theorem ev_iteF {z : α} (h : ET X c σ G false) (h2 : Ev X b σ G z) : Ev X (.IfExp c a b pos) σ G z := fun G1 H1 Q s1 s2 k =>
  WE.of (pe_ifExp pt_wt pe_we pe_we) (h G1 H1 _ s1 s2 fun G2 H2 g => h2 G2 H2 _ (s1.trans g.g) g.s fun G3 H3 v g2 r => k G3 H3 v (g.trans g2) r)
theorem ev_iteT {z : α} (h : ET X c σ G true) (h2 : Ev X a σ G z) : Ev X (.IfExp c a b pos) σ G z := fun G1 H1 Q s1 s2 k =>
  WE.of (pe_ifExp pt_wt pe_we pe_we) (h G1 H1 _ s1 s2 fun G2 H2 g => h2 G2 H2 _ (s1.trans g.g) g.s fun G3 H3 v g2 r => k G3 H3 v (g.trans g2) r)
theorem bl_asgMap {R : V → Hp → Prop} {N : St → Hp → Prop} (i j : Nat) {x y : Str} {py spos : Pos} {elt iter : Expr} {scope : Scope} {l : List γ} {f : γ → δ} (hi : EI X (.Name x px) iter σ G l)
    (he : ∀ d ∈ l, ∀ G' v, Same G G' → rp G' v d → ∀ s H C cl fp, Ev (BK X s H scope C cl fp) elt ((wipe σ [j]).set j (some v)) G' (f d))
    (hz : l.length < sizeLine) (hN : X.N.Nodup) (ok : BlkOk X.N X.env.scope scope [(x, j)]) (k : ∀ G' v, Same G G' → rp G' v (l.map f) → Bl X rest (σ.set i (some v)) G' N R)
    (hsw : swapsWith (.ListComp elt [⟨.Name x px, iter, [], 0⟩] scope pos) (some (.Name y py)) spos.line X.env = pure true := by rfl) (hx : X.N[j]? = some x := by rfl) (lx : Loc (relS scope X.env.scope) x := by first | exact Or.inl rfl | exact Or.inr rfl)
    (fx : (scope.names.lookup x == some .cell) = true ∨ (relS scope X.env.scope).names.lookup x = some .local := by first | exact .inr rfl | exact .inl rfl) (hc : X.calm = true := by rfl) (hy : X.N[i]? = some y := by rfl) (hyl : X.env.scope.names.lookup y = some .local := by rfl) (hs : ∀ x, foldedSetIterable iter X.env x = pure x := by intro _; rfl) :
    Bl X (.Assign [.Name y py] (.ListComp elt [⟨.Name x px, iter, [], 0⟩] scope pos) spos :: rest) σ G N R :=
  Bl.asgLc i (own := [(x, j)]) (f := f) (t := fun _ => true) hi tgB1 (fun _ _ _ _ _ => pg_name hN hx lx fx) (fun d hd G' σ' s1 _ s H C cl fp => ETs.nil) (fun d hd td G' σ' s1 ⟨v, r, e⟩ s H C cl fp => e ▸ he d hd G' v s1 r s H C cl fp) (fun _ _ _ b => wipe_b1 b) hz hN ok
    (fun G' v s1 r => k G' v s1 (by rwa [filter_yes] at r)) hsw hc hy hyl hs
/-- y = [x for x in iter if c], y a plain local name; steps that only bind names -/
theorem bl_asgSel {R : V → Hp → Prop} {N : St → Hp → Prop} (i j : Nat) {x y : Str} {px2 py spos : Pos} {iter : Expr} {scope : Scope} {l : List γ} {t : γ → Bool} (hi : EI X (.Name x px) iter σ G l)
    (ht : ∀ d ∈ l, ∀ G' v, Same G G' → rp G' v d → ∀ s H C cl fp, ET (BK X s H scope C cl fp) c ((wipe σ [j]).set j (some v)) G' (t d))
    (hz : l.length < sizeLine) (hN : X.N.Nodup) (ok : BlkOk X.N X.env.scope scope [(x, j)]) (k : ∀ G' v, Same G G' → rp G' v (l.filter t) → Bl X rest (σ.set i (some v)) G' N R)
    (hsw : swapsWith (.ListComp (.Name x px2) [⟨.Name x px, iter, [c], 0⟩] scope pos) (some (.Name y py)) spos.line X.env = pure true := by rfl) (hx : X.N[j]? = some x := by rfl) (lx : Loc (relS scope X.env.scope) x := by first | exact Or.inl rfl | exact Or.inr rfl)
    (fx : (scope.names.lookup x == some .cell) = true ∨ (relS scope X.env.scope).names.lookup x = some .local := by first | exact .inr rfl | exact .inl rfl) (vx : Vis (relS scope X.env.scope) x := by first | exact Or.inl rfl | exact Or.inr (Or.inl rfl) | exact Or.inr (Or.inr rfl)) (hd : (x == ("__debug__" : Str)) = false := by decide) (hcd : (x == ("__classdict__" : Str)) = false := by decide)
    (hc : X.calm = true := by rfl) (hy : X.N[i]? = some y := by rfl) (hyl : X.env.scope.names.lookup y = some .local := by rfl) (hs : ∀ x, foldedSetIterable iter X.env x = pure x := by intro _; rfl) (hjl : ∀ v : V, ((wipe σ [j]).set j (some v))[j]? = some (some v) := by intro _; rfl) :
    Bl X (.Assign [.Name y py] (.ListComp (.Name x px2) [⟨.Name x px, iter, [c], 0⟩] scope pos) spos :: rest) σ G N R :=
  Bl.asgLc i (own := [(x, j)]) (f := fun d => d) (t := t) hi tgB1 (fun _ _ _ _ _ => pg_name hN hx lx fx) (fun d hd' G' σ' s1 b s H C cl fp => by
      obtain ⟨v, r, e⟩ := b
      subst e
      exact ETs.one (ht d hd' G' v s1 r s H C cl fp)) (fun d hd' td G' σ' s1 b s H C cl fp => by
      obtain ⟨v, r, e⟩ := b
      subst e
      exact Ev.v (X := BK X s H scope C cl fp) j (v := v) (d := d) (hjl v) r hx vx hd hcd) (fun _ _ _ b => wipe_b1 b) hz hN ok
    (fun G' v s1 r => k G' v s1 (by rwa [List.map_id'] at r)) hsw hc hy hyl hs
/-- [elt for a, b in iter if c] -/
theorem Ev.lcIf2 (i j : Nat) {x y : Str} {py pt : Pos} {kt} {elt iter : Expr} {scope : Scope} {l : List (α × β)} {f : α × β → δ} {t : α × β → Bool} (hi : EI X (.Tuple [.Name x px, .Name y py] kt pt) iter σ G l)
    (ht : ∀ d ∈ l, ∀ G' u w, Same G G' → rp G' u d.1 → rp G' w d.2 → ∀ s H C cl fp, ET (BK X s H scope C cl fp) c (((wipe σ [i, j]).set i (some u)).set j (some w)) G' (t d))
    (he : ∀ d ∈ l, t d = true → ∀ G' u w, Same G G' → rp G' u d.1 → rp G' w d.2 → ∀ s H C cl fp, Ev (BK X s H scope C cl fp) elt (((wipe σ [i, j]).set i (some u)).set j (some w)) G' (f d))
    (hz : l.length < sizeLine) (hN : X.N.Nodup) (ok : BlkOk X.N X.env.scope scope [(x, i), (y, j)])
    (hg : ∀ (s : Shared) (H : Hp) (C : Addr) (cl : List (Str × Addr)) (fp : List Addr), PG (BK X s H scope C cl fp) (.Tuple [.Name x px, .Name y py] kt pt) (gTup X.K 2 (gCons (gName i) (gCons (gName j) gNil))))
    (hij : i ≠ j := by decide) (hc : X.calm = true := by rfl) (hs : ∀ y, foldedSetIterable iter X.env y = pure y := by intro _; rfl) :
    Ev X (.ListComp elt [⟨.Tuple [.Name x px, .Name y py] kt pt, iter, [c], 0⟩] scope pos) σ G ((l.filter t).map f) :=
  Ev.lc (own := [(x, i), (y, j)]) (f := f) (t := t) hi (tgB2 (K := X.K)) hg (fun d hd G' σ' s1 ⟨u, w, r1, r2, e⟩ s H C cl fp => e ▸ ETs.one (ht d hd G' u w s1 r1 r2 s H C cl fp))
    (fun d hd td G' σ' s1 ⟨u, w, r1, r2, e⟩ s H C cl fp => e ▸ he d hd td G' u w s1 r1 r2 s H C cl fp) (fun _ _ _ b => wipe_b2 hij b) hz hN ok hc hs
/-- [elt for a, b, c in iter if ..] -/
theorem wipe_b3 {i j l : Nat} (h1 : i ≠ j) (h2 : i ≠ l) (h3 : j ≠ l) {c : T3 α β γ} {G : Hp} {σ' : St} (h : B3 i j l c G (wipe σ [i, j, l]) σ') : wipe σ' [i, j, l] = wipe σ [i, j, l] := by
  obtain ⟨u, w, z, _, _, _, rfl⟩ := h
  show (((((((σ.set l none).set j none).set i none).set i (some u)).set j (some w)).set l (some z)).set l none |>.set j none |>.set i none) = ((σ.set l none).set j none).set i none
  simp only [List.set_set]
  rw [List.set_comm _ _ h3, List.set_comm _ _ h2]
  simp only [List.set_set]
  rw [List.set_comm _ _ h1]
  simp only [List.set_set]
  rw [List.set_comm _ _ h3]
  simp only [List.set_set]
/-- y = [elt for a, b, c in iter if c] on one line -/
theorem bl_asgIf3 {ε : Type} [Rp ε] {R : V → Hp → Prop} {N : St → Hp → Prop} (i j1 j2 j3 : Nat) {x1 x2 x3 y : Str} {p1 p2 p3 pt : Pos} {kt} {py spos : Pos} {elt iter : Expr} {scope : Scope} {l : List (T3 α β γ)} {f : T3 α β γ → ε} {t : T3 α β γ → Bool} (hi : EI X (.Tuple [.Name x1 p1, .Name x2 p2, .Name x3 p3] kt pt) iter σ G l)
    (ht : ∀ d ∈ l, ∀ G' u w z, Same G G' → rp G' u d.a → rp G' w d.b → rp G' z d.c → ∀ s H C cl fp, ET (BK X s H scope C cl fp) c ((((wipe σ [j1, j2, j3]).set j1 (some u)).set j2 (some w)).set j3 (some z)) G' (t d))
    (he : ∀ d ∈ l, t d = true → ∀ G' u w z, Same G G' → rp G' u d.a → rp G' w d.b → rp G' z d.c → ∀ s H C cl fp, Ev (BK X s H scope C cl fp) elt ((((wipe σ [j1, j2, j3]).set j1 (some u)).set j2 (some w)).set j3 (some z)) G' (f d))
    (hz : l.length < sizeLine) (hN : X.N.Nodup) (ok : BlkOk X.N X.env.scope scope [(x1, j1), (x2, j2), (x3, j3)]) (k : ∀ G' v, Same G G' → rp G' v ((l.filter t).map f) → Bl X rest (σ.set i (some v)) G' N R)
    (hg : ∀ (s : Shared) (H : Hp) (C : Addr) (cl : List (Str × Addr)) (fp : List Addr), PG (BK X s H scope C cl fp) (.Tuple [.Name x1 p1, .Name x2 p2, .Name x3 p3] kt pt) (gTup X.K 3 (gCons (gName j1) (gCons (gName j2) (gCons (gName j3) gNil)))))
    (hsw : swapsWith (.ListComp elt [⟨.Tuple [.Name x1 p1, .Name x2 p2, .Name x3 p3] kt pt, iter, [c], 0⟩] scope pos) (some (.Name y py)) spos.line X.env = pure true := by rfl) (h12 : j1 ≠ j2 := by decide) (h13 : j1 ≠ j3 := by decide) (h23 : j2 ≠ j3 := by decide)
    (hc : X.calm = true := by rfl) (hy : X.N[i]? = some y := by rfl) (hyl : X.env.scope.names.lookup y = some .local := by rfl) (hs : ∀ x, foldedSetIterable iter X.env x = pure x := by intro _; rfl) :
    Bl X (.Assign [.Name y py] (.ListComp elt [⟨.Tuple [.Name x1 p1, .Name x2 p2, .Name x3 p3] kt pt, iter, [c], 0⟩] scope pos) spos :: rest) σ G N R :=
  Bl.asgLc i (own := [(x1, j1), (x2, j2), (x3, j3)]) (f := f) (t := t) hi (tgB3 (K := X.K)) hg (fun d hd G' σ' s1 ⟨u, w, z, r1, r2, r3, e⟩ s H C cl fp => e ▸ ETs.one (ht d hd G' u w z s1 r1 r2 r3 s H C cl fp)) (fun d hd td G' σ' s1 ⟨u, w, z, r1, r2, r3, e⟩ s H C cl fp => e ▸ he d hd td G' u w z s1 r1 r2 r3 s H C cl fp) (fun _ _ _ b => wipe_b3 h12 h13 h23 b) hz hN ok
    (fun G' v s1 r => k G' v s1 r) hsw hc hy hyl hs
end
end D1

namespace D1
open PySem L2 Rp Da
section
variable {α β γ δ : Type} [Rp α] [Rp β] [Rp γ] [Rp δ] {X : Cx} {a b c e e1 e2 tg : Expr} {σ : St} {G : Hp} {pos p q px : Pos} {rest : List Stmt} {k j : Nat} {x : Str} {C : Addr}
/-! ### more of what is new -/
theorem EvF.listS {l : List Str} (B : Bt X.mg) (h : Ev X e σ G l) (hg : Gl X "list" := by rfl) (hs : starEach [e] X.env = (false, eval e X.env) :: starEach [] X.env := by rfl) (hpl : (backTo pos (starEach [] X.env)).any (·.1) = false := by rfl) : EvF X (.Call (.Name "list" p) [e] [] pos) σ G l := fun G1 H1 Q s1 s2 k =>
  WE.of (pe_callTy call_list_of hg B.list boot_list' (pa_cons pe_we pa_nil hs) (by decide) (by decide) hs hpl) (h G1 H1 _ s1 s2 fun G2 H2 v g r => by
    obtain ⟨q, xs, rfl, h1, pr⟩ := r
    have e1 := strs_of pr
    subst e1
    refine ⟨q, _, rfl, .inl (SqL.of (g.s _ _ h1)), fun p' hp => ?_⟩
    have g2 := Gr.new (o := .lst (l.map V.str)) g.s hp
    exact k _ _ _ (g.trans g2) ⟨p', _, rfl, new_lst g hp, strs_to _⟩)
theorem EvF.sortedS {l : List Str} (B : Bt X.mg) (h : Ev X e σ G l) (hl : l.length < 64) (hg : Gl X "sorted" := by rfl) (hs : starEach [e] X.env = (false, eval e X.env) :: starEach [] X.env := by rfl) (hpl : (backTo pos (starEach [] X.env)).any (·.1) = false := by rfl) : EvF X (.Call (.Name "sorted" p) [e] [] pos) σ G (sortS l) := fun G1 H1 Q s1 s2 k =>
  we_sortedS B (h G1 H1 _ s1 s2 fun G2 H2 v g r => ⟨G2, l, g.s, r, hl, fun p' hp => by
    have g2 := Gr.new (o := .lst ((sortS l).map V.str)) g.s hp
    exact k _ _ _ (g.trans g2) ⟨p', _, rfl, new_lst g hp, strs_to _⟩⟩) hg hs hpl
/-- xs + ys of ints: the list is new -/
theorem EvF.catI {l m : List Int} (ha : Ev X a σ G l) (hb : Ev X b σ G m) (h : l.length + m.length ≤ sizeLine) : EvF X (.BinOp a .Add b pos) σ G (l ++ m) := fun G1 H1 Q s1 s2 k =>
  we_op op_cat (ha G1 H1 _ s1 s2 fun G2 H2 v g r => hb G2 H2 _ (s1.trans g.g) g.s fun G3 H3 u g2 r2 => by
    obtain ⟨p, xs, rfl, h1, q1⟩ := rup g2.g r
    obtain ⟨p2, ys, rfl, h2, q2⟩ := r2
    have e1 := ints_of q1
    have e2 := ints_of q2
    subst e1 e2
    refine ⟨p, p2, _, _, rfl, rfl, g2.s _ _ h1, g2.s _ _ h2, by rw [List.length_map, List.length_map]; exact h, fun q hq => ?_⟩
    have g12 := g.trans g2
    have gn := Gr.new (o := .lst (l.map V.int ++ m.map V.int)) g2.s hq
    exact k _ _ _ (g12.trans gn) ⟨q, _, rfl, new_lst g12 hq, by rw [← List.map_append]; exact ints_to _⟩)
/-- self.f = e, what is stored is new -/
theorem ws_fldF (i : Nat) {f y : Str} {q dx : Addr} {fs : List (Str × V)} {px p2 : Pos} {G1 H1 : Hp} {D : Ends} {d : α} (s1 : Same G G1) (s2 : Same G1 H1) (hσ : σ[i]? = some (some (.ref q))) (hq : H1 q = some (.ins C dx fs)) (gq : G1 q = none) (cl : Cls X.K C) (na : NoAttr X.K C f) (hl : fs.length < 1000) (h : EvF X e σ G d)
    (k : ∀ G2 H2 v, GrM (fun b => b = q) G1 H1 G2 H2 → H2 q = some (.ins C dx (putF f v fs)) → rp (dif G2 H1) v d → WS X rest D σ H2) (hN : X.N[i]? = some y := by rfl) (hv : Vis X.env.scope y := by first | exact Or.inl rfl | exact Or.inr (Or.inl rfl) | exact Or.inr (Or.inr rfl)) (hd : (y == ("__debug__" : Str)) = false := by decide)
    (hcd : (y == ("__classdict__" : Str)) = false := by decide) (hs : swapsWith e (some (.Attribute (.Name y px) f p2)) pos.line X.env = pure false := by rfl) : WS X (.Assign [.Attribute (.Name y px) f p2] e pos :: rest) D σ H1 :=
  WS.cons (ps_fld (pv i hN hv hd hcd) pe_we hs) (h G1 H1 _ s1 s2 fun G2 H2 v g r => by
    have hq2 := g.hh _ _ hq
    have gq2 := g.f q gq (by rw [hq]; exact fun z => nomatch z)
    exact ⟨_, hσ, q, C, dx, fs, rfl, hq2, cl, na, hl, k _ _ _ (g.any.trans (GrM.put g.s gq2 rfl)) upd_same r⟩)
/-- a class's making, all whose parts are new -/
def PI2F (C : Addr) (pre : α → β → Prop) (f : α → β → γ) : Sp := fun vs H Q _ => ∃ G x dx u v a b, vs = [.ref x, u, v] ∧ H x = some (.ins C dx []) ∧ G x = none ∧ Same G H ∧ rp G u a ∧ rp G v b ∧ pre a b ∧
  ∀ G' H' o, GrM (fun q => q = x) G H G' H' → H' x = some o → rp (upd (dif G' H) x o) (.ref x) (f a b) → Q .non H'
theorem EvF.make2 {pre : α → β → Prop} {f : α → β → γ} {d : α} {z : β} (c : C8.Mak X.prog X.w X.K X.mg X.base k x C (PI2F C pre f) []) (hr : Room j X.A) (ha : Ev X a σ G d) (hb : Ev X b σ G z) (hp : pre d z) (hk : k + 1 ≤ j := by decide) (hg : Gl X x := by rfl)
    (hdb : (x == ("__debug__" : Str)) = false := by decide) (he : starEach [a, b] X.env = (false, eval a X.env) :: starEach [b] X.env := by rfl) (he2 : starEach [b] X.env = (false, eval b X.env) :: starEach [] X.env := by rfl) (hpl : (backTo pos (starEach [b] X.env)).any (·.1) = false := by rfl) :
    EvF X (.Call (.Name x p) [a, b] [] pos) σ G (f d z) := fun G1 H1 Q s1 s2 kk =>
  WE.of (C8.pe_mk c hr hk hg (pa_cons pe_we (pa_cons pe_we pa_nil he2) he) hdb he hpl) (ha G1 H1 _ s1 s2 fun G2 H2 v g r => hb G2 H2 _ (s1.trans g.g) g.s fun G3 H3 u g2 r2 q dq hq hdq ne => by
    have sm := made_gr (C := C) g2.s hq hdq
    have gq : G3 q = none := g2.s.free hq
    refine ⟨G3, q, dq, v, u, d, z, rfl, upd_same, gq, sm, rup g2.g r, r2, hp, fun G4 H4 ob g3 ho r3 => ⟨rfl, ?_⟩⟩
    have g4q : G4 q = none := g3.f q gq (by rw [upd_same]; exact fun z => nomatch z)
    have g12 := g.trans g2
    refine kk (upd G4 q ob) H4 _ (g12.trans ?_) (rup ?_ r3)
    · refine ⟨g3.g.trans (same_new g4q), fun b' o' _ e => ?_, fun b' o' e => ?_, fun b' e n => ?_, fun b' n => ?_⟩
      · have ne1 := ne_of_none e hq
        exact g3.h b' o' ne1 (by rw [upd_ne ne1, upd_ne (ne_of_none e hdq)]; exact e)
      · by_cases hb' : b' = q
        · subst hb'; rw [upd_same] at e; cases e; exact ho
        · rw [upd_ne hb'] at e; exact g3.s b' o' e
      · rw [upd_ne (fun z => n (by rw [z]; exact hq))]
        exact g3.f b' e (upd_some (upd_some n))
      · exact g3.d b' (upd_some (upd_some n))
    · intro b' o' e
      by_cases hb' : b' = q
      · subst hb'
        rw [upd_same] at e
        rw [dif_none (g12.fresh hq), upd_same]
        exact e
      · rw [upd_ne hb'] at e
        obtain ⟨e1, e2⟩ := dif_at e
        have e3 : H3 b' = none := by
          cases e4 : H3 b' with
          | none => rfl
          | some o4 => rw [upd_ne hb', upd_ne (ne_of_none e4 hdq), e4] at e1; cases e1
        rw [dif_none (g12.fresh e3), upd_ne hb']
        exact e2)
/-- two arguments; what is told is new -/
def P2F {α β γ : Type} [Rp α] [Rp β] [Rp γ] (pre : α → β → Prop) (f : α → β → γ) : Sp := fun vs H Q _ => ∃ G u v a b, vs = [u, v] ∧ Same G H ∧ rp G u a ∧ rp G v b ∧ pre a b ∧ ∀ G' H' w, Gr G H G' H' → rp (dif G' H) w (f a b) → Q w H'
theorem EvF.call2 {pre : α → β → Prop} {f : α → β → γ} {d : α} {z : β} (cc : C8.Cal X.prog X.w X.K X.mg X.base k x (P2F pre f) []) (hr : Room j X.A) (ha : Ev X e1 σ G d) (hb : Ev X e2 σ G z) (hp : pre d z) (hk : k ≤ j := by decide) (hg : Gl X x := by rfl)
    (hdb : (x == ("__debug__" : Str)) = false := by decide) (hs : starEach [e1, e2] X.env = (false, eval e1 X.env) :: starEach [e2] X.env := by rfl) (hs2 : starEach [e2] X.env = (false, eval e2 X.env) :: starEach [] X.env := by rfl) (hpl : (backTo pos (starEach [e2] X.env)).any (·.1) = false := by rfl) : EvF X (.Call (.Name x p) [e1, e2] [] pos) σ G (f d z) := fun G1 H1 Q s1 s2 kk =>
  WE.of (C8.pe_c cc hr hk hg (pa_cons pe_we (pa_cons pe_we pa_nil hs2) hs) hdb hs hpl) (ha G1 H1 _ s1 s2 fun G2 H2 v g r => hb G2 H2 _ (s1.trans g.g) g.s fun G3 H3 u g2 r2 => ⟨G3, v, u, d, z, rfl, g2.s, rup g2.g r, r2, hp, fun G4 H4 w g3 r3 => kk G4 H4 w ((g.trans g2).trans g3) (rup (g.trans g2).difs r3)⟩)
end
section
variable {P : Program} {w : World} {K : PySem.W.Frag} {mg : Str → Option Value} {base : Heap} {f : Addr} {fd : FuncData}
/-- a def whose answer is new -/
theorem fn1F {α β : Type} [Rp α] [Rp β] {x : Str} {st : Stmt} {N ps : List Str} {k : Nat} {pre : α → Prop} {g : α → β} (D : C8.Def K mg x st f fd) (b : Binds K fd ps []) (S : FnScope N ps (C8.fnScope st)) (hl : ps.length = 1)
    (body : ∀ (cdv : Value) (A : Around) (outer : List Env) (s : Shared) (H : Hp) (E : XK) (G : Hp) (v : V) (a : α) (Q : VK), Room k (BX P w K mg base N x st f cdv A outer s H E).A → Same G H → rp G v a → pre a → (∀ G' H' u, Gr G H G' H' → rp (dif G' H) u (g a) → Q u H') →
      WS (BX P w K mg base N x st f cdv A outer s H E) (C8.fnBody st) { nx := fun _ H' => Q .non H', rt := Q } (start N [v]) H) : C8.Cal P w K mg base (k + 1) x (P1F pre g) [] := by
  refine C8.cal0 D b .nil S (fun vs H Q E h => ?_) fun cdv A outer s H vs Q E hr h => ?_
  · obtain ⟨G, v, a, rfl, _⟩ := h
    exact hl.symm
  · obtain ⟨G, v, a, rfl, s1, r, p, kk⟩ := h
    exact ⟨_, pss_ws, body cdv A outer s H E G v a Q hr s1 r p kk⟩
theorem fn2F {α β γ : Type} [Rp α] [Rp β] [Rp γ] {x : Str} {st : Stmt} {N ps : List Str} {k : Nat} {pre : α → β → Prop} {g : α → β → γ} (D : C8.Def K mg x st f fd) (b : Binds K fd ps []) (S : FnScope N ps (C8.fnScope st)) (hl : ps.length = 2)
    (body : ∀ (cdv : Value) (A : Around) (outer : List Env) (s : Shared) (H : Hp) (E : XK) (G : Hp) (u v : V) (a : α) (c : β) (Q : VK), Room k (BX P w K mg base N x st f cdv A outer s H E).A → Same G H → rp G u a → rp G v c → pre a c → (∀ G' H' u, Gr G H G' H' → rp (dif G' H) u (g a c) → Q u H') →
      WS (BX P w K mg base N x st f cdv A outer s H E) (C8.fnBody st) { nx := fun _ H' => Q .non H', rt := Q } (start N [u, v]) H) : C8.Cal P w K mg base (k + 1) x (P2F pre g) [] := by
  refine C8.cal0 D b .nil S (fun vs H Q E h => ?_) fun cdv A outer s H vs Q E hr h => ?_
  · obtain ⟨G, u, v, a, c, rfl, _⟩ := h
    exact hl.symm
  · obtain ⟨G, u, v, a, c, rfl, s1, r1, r2, p, kk⟩ := h
    exact ⟨_, pss_ws, body cdv A outer s H E G u v a c Q hr s1 r1 r2 p kk⟩
end
/-- what is made of new things alone is new -/
theorem small_gr {G H G' H' G2 H2 : Hp} (s : Same G H) (g1 : Gr G H G' H') (g2 : Gr (dif G' H) H' G2 H2) : ∃ G'', Gr G H G'' H2 ∧ Same G2 (dif G'' H) := by
  have no : ∀ b, H b ≠ none → G2 b = none := fun b hb => g2.f b (by
    cases e : dif G' H b with
    | none => rfl
    | some o => exact absurd (dif_at e).1 hb) (g1.d b hb)
  refine ⟨fun b => match G b with | some o => some o | none => G2 b, ⟨fun b o e => ?_, fun b o _ e => g2.hh _ _ (g1.hh _ _ e), fun b o e => ?_, fun b e n => ?_, fun b n => g2.d b (g1.d b n)⟩, fun b o e => ?_⟩
  · show (match G b with | some o => some o | none => G2 b) = some o
    rw [e]
  · have e' : (match G b with | some o => some o | none => G2 b) = some o := e
    cases h : G b with
    | some o' =>
      rw [h] at e'
      cases e'
      exact g2.hh _ _ (g1.hh _ _ (s _ _ h))
    | none =>
      rw [h] at e'
      exact g2.s _ _ e'
  · show (match G b with | some o => some o | none => G2 b) = none
    rw [e]
    exact no b n
  · have hb : H b = none := Classical.byContradiction fun n => by rw [no b n] at e; cases e
    rw [dif_none hb]
    show (match G b with | some o => some o | none => G2 b) = some o
    rw [s.free hb]
    exact e
end D1

namespace D1
open PySem L2 Rp Da
section
variable {α β γ δ : Type} [Rp α] [Rp β] [Rp γ] [Rp δ] {X : Cx} {a b c d e tg : Expr} {σ : St} {G : Hp} {pos p q px : Pos} {rest : List Stmt} {k j : Nat} {x : Str}
theorem bl_asgIf {R : V → Hp → Prop} {N : St → Hp → Prop} (i j : Nat) {x y : Str} {py spos : Pos} {elt iter : Expr} {scope : Scope} {l : List γ} {f : γ → δ} {t : γ → Bool} (hi : EI X (.Name x px) iter σ G l)
    (ht : ∀ d ∈ l, ∀ G' v, Same G G' → rp G' v d → ∀ s H C cl fp, ET (BK X s H scope C cl fp) c ((wipe σ [j]).set j (some v)) G' (t d))
    (he : ∀ d ∈ l, t d = true → ∀ G' v, Same G G' → rp G' v d → ∀ s H C cl fp, Ev (BK X s H scope C cl fp) elt ((wipe σ [j]).set j (some v)) G' (f d))
    (hz : l.length < sizeLine) (hN : X.N.Nodup) (ok : BlkOk X.N X.env.scope scope [(x, j)]) (k : ∀ G' v, Same G G' → rp G' v ((l.filter t).map f) → Bl X rest (σ.set i (some v)) G' N R)
    (hsw : swapsWith (.ListComp elt [⟨.Name x px, iter, [c], 0⟩] scope pos) (some (.Name y py)) spos.line X.env = pure true := by rfl) (hx : X.N[j]? = some x := by rfl) (lx : Loc (relS scope X.env.scope) x := by first | exact Or.inl rfl | exact Or.inr rfl)
    (fx : (scope.names.lookup x == some .cell) = true ∨ (relS scope X.env.scope).names.lookup x = some .local := by first | exact .inr rfl | exact .inl rfl) (hc : X.calm = true := by rfl) (hy : X.N[i]? = some y := by rfl) (hyl : X.env.scope.names.lookup y = some .local := by rfl) (hs : ∀ x, foldedSetIterable iter X.env x = pure x := by intro _; rfl) :
    Bl X (.Assign [.Name y py] (.ListComp elt [⟨.Name x px, iter, [c], 0⟩] scope pos) spos :: rest) σ G N R :=
  Bl.asgLc i (own := [(x, j)]) (f := f) (t := t) hi tgB1 (fun _ _ _ _ _ => pg_name hN hx lx fx) (fun d hd G' σ' s1 ⟨v, r, e⟩ s H C cl fp => e ▸ ETs.one (ht d hd G' v s1 r s H C cl fp)) (fun d hd td G' σ' s1 ⟨v, r, e⟩ s H C cl fp => e ▸ he d hd td G' v s1 r s H C cl fp) (fun _ _ _ b => wipe_b1 b) hz hN ok
    (fun G' v s1 r => k G' v s1 r) hsw hc hy hyl hs
theorem we_call4 {sp : Sp} {H : Hp} {Q : VK} (cc : C8.Cal X.prog X.w X.K X.mg X.base k x sp []) (hr : Room j X.A) (h : WE X a σ H fun v H1 => WE X b σ H1 fun u H2 => WE X c σ H2 fun w H3 => WE X d σ H3 fun z H4 => sp [v, u, w, z] H4 Q C8.E0) (hk : k ≤ j := by decide) (hg : Gl X x := by rfl)
    (hdb : (x == ("__debug__" : Str)) = false := by decide) (hs : starEach [a, b, c, d] X.env = (false, eval a X.env) :: starEach [b, c, d] X.env := by rfl) (hs2 : starEach [b, c, d] X.env = (false, eval b X.env) :: starEach [c, d] X.env := by rfl) (hs3 : starEach [c, d] X.env = (false, eval c X.env) :: starEach [d] X.env := by rfl) (hs4 : starEach [d] X.env = (false, eval d X.env) :: starEach [] X.env := by rfl) (hpl : (backTo pos (starEach [b, c, d] X.env)).any (·.1) = false := by rfl) : WE X (.Call (.Name x p) [a, b, c, d] [] pos) σ H Q :=
  WE.of (C8.pe_c cc hr hk hg (pa_cons pe_we (pa_cons pe_we (pa_cons pe_we (pa_cons pe_we pa_nil hs4) hs3) hs2) hs) hdb hs hpl) h
/-! ### a comprehension whose items are new -/
/-- data that is new beside H0 -/
structure Fr (H0 : Hp) (α : Type) where
  v : α
instance {H0 : Hp} : Rp (Fr H0 α) := ⟨fun H v x => rp (dif H H0) v x.v, fun s h => rup (dif_up s) h⟩
theorem paired_fr {H0 G : Hp} : ∀ {xs : List V} {l : List α}, Paired (rp G) xs (l.map fun d => (⟨d⟩ : Fr H0 α)) → Paired (rp (dif G H0)) xs l
  | _, [], .nil => .nil
  | _, _ :: _, .cons r t => .cons r (paired_fr t)
/-- what stands beside what is new -/
def plus (A B : Hp) : Hp := fun b => match A b with | some o => some o | none => B b
theorem plus_l {A B : Hp} : Same A (plus A B) := fun b o e => by unfold plus; rw [e]
theorem plus_r {A B : Hp} (h : ∀ b, A b ≠ none → B b = none) : Same B (plus A B) := fun b o e => by
  unfold plus
  cases e2 : A b with
  | none => exact e
  | some o2 => rw [h b (by rw [e2]; exact fun z => nomatch z)] at e; cases e
theorem plus_in {A B H : Hp} (sA : Same A H) (sB : Same B H) : Same (plus A B) H := fun b o e => by
  unfold plus at e
  cases e2 : A b with
  | none => rw [e2] at e; exact sB _ _ e
  | some o2 => rw [e2] at e; cases e; exact sA _ _ e2
theorem plus_none {A B : Hp} {b : Addr} (hA : A b = none) (hB : B b = none) : plus A B b = none := by unfold plus; rw [hA]; exact hB
theorem dif_old {G H0 : Hp} {b : Addr} (h : H0 b ≠ none) : dif G H0 b = none := by
  cases e : dif G H0 b with
  | none => rfl
  | some o => exact absurd (dif_at e).1 h
/-- all that was there is taken as standing; then what is new is kept beside what stood -/
theorem all_gr {G H G2 H2 : Hp} (s : Same G H) (g : Gr H H G2 H2) : Gr G H (plus G (dif G2 H)) H2 ∧ Same (dif G2 H) (dif (plus G (dif G2 H)) H) := by
  refine ⟨⟨plus_l, fun b o _ e => g.hh _ _ e, plus_in (s.trans (g.g.trans g.s)) (dif_same.trans g.s), fun b e n => plus_none e (dif_old n), g.d⟩, fun b o e => ?_⟩
  rw [dif_none (dif_at e).1]
  exact plus_r (fun b hb => dif_old fun z => hb (s.free z)) _ _ e
/-- y = [elt for a, b in iter] on one line; all of it is new -/
theorem ws_asgMap2F (i j1 j2 : Nat) {x1 x2 y : Str} {p1 p2 pt : Pos} {kt} {py spos : Pos} {elt iter : Expr} {scope : Scope} {l : List (α × β)} {f : α × β → δ} {G1 H1 : Hp} {D : Ends} (s2 : Same G1 H1) (hi : EI X (.Tuple [.Name x1 p1, .Name x2 p2] kt pt) iter σ G1 l)
    (he : ∀ d ∈ l, ∀ G' u w, Same H1 G' → rp G' u d.1 → rp G' w d.2 → ∀ s H C cl fp, EvF (BK X s H scope C cl fp) elt (((wipe σ [j1, j2]).set j1 (some u)).set j2 (some w)) G' (f d))
    (hz : l.length < sizeLine) (hN : X.N.Nodup) (ok : BlkOk X.N X.env.scope scope [(x1, j1), (x2, j2)]) (k : ∀ G2 H2 v, Gr G1 H1 G2 H2 → rp (dif G2 H1) v (l.map f) → WS X rest D (σ.set i (some v)) H2)
    (hg : ∀ (s : Shared) (H : Hp) (C : Addr) (cl : List (Str × Addr)) (fp : List Addr), PG (BK X s H scope C cl fp) (.Tuple [.Name x1 p1, .Name x2 p2] kt pt) (gTup X.K 2 (gCons (gName j1) (gCons (gName j2) gNil))))
    (hsw : swapsWith (.ListComp elt [⟨.Tuple [.Name x1 p1, .Name x2 p2] kt pt, iter, [], 0⟩] scope pos) (some (.Name y py)) spos.line X.env = pure true := by rfl) (hij : j1 ≠ j2 := by decide) (hc : X.calm = true := by rfl) (hy : X.N[i]? = some y := by rfl) (hyl : X.env.scope.names.lookup y = some .local := by rfl) (hs : ∀ x, foldedSetIterable iter X.env x = pure x := by intro _; rfl) :
    WS X (.Assign [.Name y py] (.ListComp elt [⟨.Tuple [.Name x1 p1, .Name x2 p2] kt pt, iter, [], 0⟩] scope pos) spos :: rest) D σ H1 :=
  WS.cons (ps_setLc (tt := ATs X scope []) (te := AE X scope elt) (own := [(x1, j1), (x2, j2)]) hc hN hy hyl hsw pi_wi ok hg (fun s H C cl fp => ⟨fun pins s1 σ' H' Q' I h => h s H C cl fp pins s1 I⟩) (fun s H C cl fp => ⟨fun pins s1 σ' H' Q' I h => h s H C cl fp pins s1 I⟩) hs)
    (hi H1 H1 _ s2 (Same.refl _) fun J S Y G2 H2 g2 w hS hY L hL => by
      have key := lc_data (δ := Fr H1 δ) (f := fun d => (⟨f d⟩ : Fr H1 δ)) (t := fun _ => true) (Qd := fun v H3 => v = .ref L → WS X rest D (σ.set i (some v)) H3) (tt := ATs X scope []) (te := AE X scope elt) (vs := [j1, j2]) w hS hY (tgB2 (K := X.K)) (fun _ _ _ b => wipe_b2 hij b)
        (fun c hc' G' σ' sG b H' Q' s3 k' s H C cl fp pins s1' I => ETs.nil (X := BK X s H scope C cl fp) G' H' Q' (Same.refl _) s3 k' pins s1' I)
        (fun c hc' tc G' σ' sG b G1' H' Q' s3 s4 k' s H C cl fp => by
          obtain ⟨u, v, r1, r2, e⟩ := b
          subst e
          have dm : ∀ b, H1 b ≠ none → H' b ≠ none := fun b hb => by
            cases e1 : H1 b with
            | none => exact absurd e1 hb
            | some o => rw [s4 _ _ (s3 _ _ (sG _ _ (g2.g _ _ e1)))]; exact fun z => nomatch z
          exact he c hc' G' u v (g2.g.trans sG) r1 r2 s H C cl fp G1' H' Q' s3 s4 fun G3 H3 v3 g3 r3 => k' G3 H3 v3 g3 (show rp (dif G3 H1) v3 (f c) from rup (dif_less (G := G3) dm) r3))
        hz g2.s hL (fun G3 H3 v g3 r ev => by
          subst ev
          have g13 : Gr H1 H1 G3 H3 := g2.trans g3
          obtain ⟨gg, ss⟩ := all_gr s2 g13
          refine k _ H3 (.ref L) gg (rup ss ?_)
          rw [filter_yes] at r
          obtain ⟨p, xs, e, hp, pr⟩ := r
          cases e
          refine ⟨L, xs, rfl, by rw [dif_none (g2.fresh hL)]; exact hp, ?_⟩
          have pr' : Paired (rp G3) xs ((l.map f).map fun d => (⟨d⟩ : Fr H1 δ)) := by rw [List.map_map]; exact pr
          exact paired_fr pr')
      obtain ⟨W, h1, h2⟩ := key
      exact ⟨W, h1, fun i m H w => (h2 i m H w).imp (fun ⟨a, b⟩ => ⟨a, b rfl⟩) id⟩)
/-- for x in (..): the tuple comes of changes -/
theorem ws_forT (j : Nat) {y : Str} {iter : Expr} {body : List Stmt} {G1 H1 : Hp} {D : Ends} (I : List γ → Nat → St → Hp → Hp → Prop)
    (h : WE X iter σ H1 fun v H2 => ∃ (l : List γ) (G2 : Hp), Same G1 G2 ∧ Same G2 H2 ∧ rp G2 v (TupL.mk l) ∧ I l 0 σ G2 H2)
    (hs : ∀ l i c σ1 G2 H2 v, l[i]? = some c → Same G1 G2 → Same G2 H2 → rp G2 v c → I l i σ1 G2 H2 →
      WS X body { nx := fun σ' H' => ∃ G', Same G2 G' ∧ Same G' H' ∧ I l (i + 1) σ' G' H', rt := D.rt, ct := fun σ' H' => ∃ G', Same G2 G' ∧ Same G' H' ∧ I l (i + 1) σ' G' H', bk := fun σ' H' => WS X rest D σ' H' } (σ1.set j (some v)) H2)
    (k : ∀ l σ1 G2 H2, Same G1 G2 → Same G2 H2 → I l l.length σ1 G2 H2 → WS X rest D σ1 H2) (hN : X.N.Nodup) (hj : X.N[j]? = some y := by rfl) (hx : Loc X.env.scope y := by first | exact Or.inl rfl | exact Or.inr rfl) (hp : PassesOwn (model X.prog X.w) X.A X.env X.xe := by exact PassesOwn.never) (hc : X.calm = true := by rfl)
    (hfn : X.fn y = true ∨ X.env.scope.names.lookup y = some .local := by first | exact .inl rfl | exact .inr rfl) (hso : ∀ x, foldedSetIterable iter X.env x = pure x := by intro _; rfl) : WS X (.For (.Name y px) iter body [] pos :: rest) D σ H1 :=
  WS.cons (ps_for hp hc (pi_tup pe_we) (pg_name hN hj hx hfn) pss_ws hso) (WE.mono h fun v H2 ⟨l, G2, a1, a2, r, a3⟩ => by
    obtain ⟨q, xs, rfl, h1, pr⟩ := r
    have hl := pr.length
    refine ⟨q, rfl, ⟨xs, SqT.of (a2 _ _ h1)⟩, ?_⟩
    have w : Walk (Itt X.K q) l.length (fun H => SqT X.K H q xs) (YAt xs) := by
      have hl' : xs.length = l.length := hl
      rw [← hl']; exact walk_tup
    exact for_it w (fun i σ' H' => ∃ G3, Same G2 G3 ∧ Same G3 H' ∧ I l i σ' G3 H') ⟨G2, Same.refl _, a2, a3⟩ (fun i σ' H' _ ⟨G3, b1, b2, b3⟩ => SqT.of (b2 _ _ (b1 _ _ h1)))
      (fun i x σ' H' H'' hi ⟨G3, b1, b2, b3⟩ y => by
        obtain ⟨rfl, y⟩ := y
        obtain ⟨d, e1, e2⟩ := paired_at pr y
        have h := hs l i d σ' G3 H'' x e1 (a1.trans b1) b2 (rup b1 e2) b3
        show WS X body _ (σ'.set j (some x)) H''
        intro pins s Iv
        refine thn (h pins s Iv) fun f s' q => ?_
        match f, q with
        | .next, ⟨σ3, H3, I3, G5, c1, c2, c3⟩ => exact ⟨σ3, H3, I3, G5, b1.trans c1, c2, c3⟩
        | .cont, ⟨σ3, H3, I3, G5, c1, c2, c3⟩ => exact ⟨σ3, H3, I3, G5, b1.trans c1, c2, c3⟩
        | .brk, ⟨σ3, H3, I3, q⟩ => exact ⟨σ3, H3, I3, q⟩
        | .ret u, ⟨v, σ3, H3, I3, rv, q⟩ => exact ⟨v, σ3, H3, I3, rv, q⟩)
      fun σ' H' ⟨G3, b1, b2, b3⟩ => k l σ' G3 H' (a1.trans b1) b2 b3)
end
end D1

namespace D1
open PySem L2 Rp Da
section
variable {α β γ δ : Type} [Rp α] [Rp β] [Rp γ] [Rp δ] {X : Cx} {a b c d e o tg : Expr} {σ : St} {G : Hp} {pos p q px apos : Pos} {rest : List Stmt} {k j : Nat} {x m : Str} {C : Addr}
theorem we_call0 {sp : Sp} {H : Hp} {Q : VK} (cc : C8.Cal X.prog X.w X.K X.mg X.base k x sp []) (hr : Room j X.A) (h : sp [] H Q C8.E0) (hk : k ≤ j := by decide) (hg : Gl X x := by rfl) (hdb : (x == ("__debug__" : Str)) = false := by decide) : WE X (.Call (.Name x p) [] [] pos) σ H Q := by
  obtain ⟨f, fd, ps, ds, F, hm, kp, b, v⟩ := cc.ex
  exact WE.of (pe_call0 F (hr.mono hk) hg hm kp b v pass0 hdb) h
theorem EvF.meth0 {pl : Sem Bool} {pre : α → Prop} {f : α → β} {z : α} (c : C8.Met X.prog X.w X.K X.mg X.base k C m (P1F pre f) []) (hr : Room j X.A) (hm : MthOf C m z) (h : Ev X o σ G z) (hp : pre z) (hk : k ≤ j := by decide)
    (ht : eval (.Call (.Attribute o m apos) [] [] pos) X.env = (do
      let ov ← eval o X.env
      standAt apos.atName
      let (f, first) ← holding [ov] (getMethod ov m pl)
      callWith pos f first (backTo pos (starEach [] X.env)) (backToKw pos (keywordEach [] X.env))) := by rfl) : EvF X (.Call (.Attribute o m apos) [] [] pos) σ G (f z) := fun G1 H1 Q s1 s2 kk =>
  WE.of (C8.pe_mt0 (pl := pl) c hr hk pe_we ht) (h G1 H1 _ s1 s2 fun G2 H2 v g r => by
    obtain ⟨p, dx, fs, rfl, h1, lk⟩ := hm _ _ r
    exact ⟨p, dx, fs, rfl, g.s _ _ h1, lk, G2, _, z, rfl, g.s, r, hp, fun G3 H3 w g2 r2 => kk _ _ _ (g.trans g2) (rup g.difs r2)⟩)
/-- [elt for x in iter], all of it new -/
theorem EvF.lcMap (i : Nat) {elt iter : Expr} {scope : Scope} {l : List γ} {f : γ → δ} (hi : EI X (.Name x px) iter σ G l)
    (he : ∀ d ∈ l, ∀ G' v, Same G G' → rp G' v d → ∀ s H C cl fp, EvF (BK X s H scope C cl fp) elt ((wipe σ [i]).set i (some v)) G' (f d))
    (hz : l.length < sizeLine) (hN : X.N.Nodup) (ok : BlkOk X.N X.env.scope scope [(x, i)]) (hx : X.N[i]? = some x := by rfl) (lx : Loc (relS scope X.env.scope) x := by first | exact Or.inl rfl | exact Or.inr rfl)
    (fx : (scope.names.lookup x == some .cell) = true ∨ (relS scope X.env.scope).names.lookup x = some .local := by first | exact .inr rfl | exact .inl rfl) (hc : X.calm = true := by rfl) (hs : ∀ y, foldedSetIterable iter X.env y = pure y := by intro _; rfl) :
    EvF X (.ListComp elt [⟨.Name x px, iter, [], 0⟩] scope pos) σ G (l.map f) := fun G1 H1 Q s1 s2 k =>
  WE.of (pe_lc (tt := ATs X scope []) (te := AE X scope elt) (own := [(x, i)]) hc hN pi_wi ok (fun _ _ _ _ _ => pg_name hN hx lx fx) (fun s H C cl fp => ⟨fun pins s1 σ' H' Q' I h => h s H C cl fp pins s1 I⟩) (fun s H C cl fp => ⟨fun pins s1 σ' H' Q' I h => h s H C cl fp pins s1 I⟩) hs)
    (hi H1 H1 _ (s1.trans s2) (Same.refl _) fun J S Y G2 H2 g2 w hS hY L hL => by
      have key := lc_data (δ := Fr H1 δ) (f := fun d => (⟨f d⟩ : Fr H1 δ)) (t := fun _ => true) (Qd := fun v H3 => v = .ref L → Q v H3) (tt := ATs X scope []) (te := AE X scope elt) (vs := [i]) w hS hY (tgB1 (i := i)) (fun _ _ _ b => wipe_b1 b)
        (fun c hc' G' σ' sG b H' Q' s3 k' s H C cl fp pins s1' I => ETs.nil (X := BK X s H scope C cl fp) G' H' Q' (Same.refl _) s3 k' pins s1' I)
        (fun c hc' tc G' σ' sG b G1' H' Q' s3 s4 k' s H C cl fp => by
          obtain ⟨u, r1, e⟩ := b
          subst e
          have dm : ∀ b, H1 b ≠ none → H' b ≠ none := fun b hb => by
            cases e1 : H1 b with
            | none => exact absurd e1 hb
            | some o => rw [s4 _ _ (s3 _ _ (sG _ _ (g2.g _ _ e1)))]; exact fun z => nomatch z
          exact he c hc' G' u ((s1.trans s2).trans (g2.g.trans sG)) r1 s H C cl fp G1' H' Q' s3 s4 fun G3 H3 v3 g3 r3 => k' G3 H3 v3 g3 (show rp (dif G3 H1) v3 (f c) from rup (dif_less (G := G3) dm) r3))
        hz g2.s hL (fun G3 H3 v g3 r ev => by
          subst ev
          have g13 : Gr H1 H1 G3 H3 := g2.trans g3
          obtain ⟨gg, ss⟩ := all_gr s2 g13
          refine k _ H3 (.ref L) gg (rup ss ?_)
          rw [filter_yes] at r
          obtain ⟨p, xs, e, hp, pr⟩ := r
          cases e
          refine ⟨L, xs, rfl, by rw [dif_none (g2.fresh hL)]; exact hp, ?_⟩
          have pr' : Paired (rp G3) xs ((l.map f).map fun d => (⟨d⟩ : Fr H1 δ)) := by rw [List.map_map]; exact pr
          exact paired_fr pr')
      obtain ⟨W, h1, h2⟩ := key
      exact ⟨W, h1, fun i m H w => (h2 i m H w).imp (fun ⟨a, b⟩ => ⟨a, b rfl⟩) id⟩)
end
section
variable {P : Program} {w : World} {K : PySem.W.Frag} {mg : Str → Option Value} {base : Heap} {f : Addr} {fd : FuncData}
/-- a method whose answer is new -/
theorem fk1F {α β : Type} [Rp α] [Rp β] {x q : Str} {st : Stmt} {N ps : List Str} {k : Nat} {pre : α → Prop} {g : α → β} (F : C8.Fun K x q st f fd) (S : FnScope N ps (C8.fnScope st)) (hl : ps.length = 1)
    (body : ∀ (cdv : Value) (A : Around) (outer : List Env) (s : Shared) (H : Hp) (E : XK) (G : Hp) (v : V) (a : α) (Q : VK), Room k (cxOf C8.CX0 P w K mg base N q (C8.fnScope st) f cdv A outer s H E).A → Same G H → rp G v a → pre a → (∀ G' H' u, Gr G H G' H' → rp (dif G' H) u (g a) → Q u H') →
      WS (cxOf C8.CX0 P w K mg base N q (C8.fnScope st) f cdv A outer s H E).nox (C8.fnBody st) { nx := fun _ H' => Q .non H', rt := Q } (start N [v]) H) : FnOk P w K mg base C8.CX0 (k + 1) f fd ps (P1F pre g) := by
  refine C8.fn0 F S (fun vs H Q E h => ?_) fun cdv A outer s H vs Q E hr h => ?_
  · obtain ⟨G, v, a, rfl, _⟩ := h
    exact hl.symm
  · obtain ⟨G, v, a, rfl, s1, r, p, kk⟩ := h
    exact ⟨_, pss_ws, body cdv A outer s H E G v a Q hr s1 r p kk⟩
end
end D1

namespace D1
open PySem L2 Rp Da
/-! ### what is no instance of an own class -/
inductive NoP (H : Hp) (v : V) : Prop where
  | non (h : v = .non)
  | bl (b : Bool) (h : v = .bl b)
  | int (i : Int) (h : v = .int i)
  | str (z : Str) (h : v = .str z)
  | lst (p : Addr) (xs : List V) (h : v = .ref p) (e : H p = some (.lst xs))
  | tup (p : Addr) (xs : List V) (h : v = .ref p) (e : H p = some (.tup xs))
  | dct (p : Addr) (kvs : List (Key × V)) (h : v = .ref p) (e : H p = some (.dK kvs))
theorem NoP.up {H H' : Hp} {v : V} (s : Same H H') : NoP H v → NoP H' v
  | .non h => .non h
  | .bl b h => .bl b h
  | .int i h => .int i h
  | .str z h => .str z h
  | .lst p xs h e => .lst p xs h (s _ _ e)
  | .tup p xs h e => .tup p xs h (s _ _ e)
  | .dct p kvs h e => .dct p kvs h (s _ _ e)
structure NotC (K : PySem.W.Frag) (C : Addr) : Prop where
  cs : (PySem.W.clsIn K C).isSome = true
  ty : PySem.W.typeIn K (.ref C) = some (.type "type")
theorem NotC.one {K : PySem.W.Frag} {C : Addr} (h : NotC K C) {T : String} (e : PySem.W.subIn K (.type T) (.ref C) = some false) : PySem.W.kitOne K (.type T) (.ref C) = some false := by
  have e1 : PySem.W.kitOne K (.type T) (.ref C) = PySem.W.kitCls K (.type T) (.ref C) := if_neg (by
    intro z
    have := beq_iff_eq.mp z
    cases this)
  rw [e1]
  unfold PySem.W.kitCls
  simp only
  rw [h.cs, h.ty]
  exact e
theorem NoP.ty {K : PySem.W.Frag} {C : Addr} {H : Hp} {v : V} (c : NotC K C) (h : NoP H v) : ∃ t, TyX K H v t ∧ PySem.W.kitOne K t (.ref C) = some false := by
  cases h with
  | non h => subst h; exact ⟨_, .base .non, c.one rfl⟩
  | bl b h => subst h; exact ⟨_, .base (.bl b), c.one rfl⟩
  | int i h => subst h; exact ⟨_, .base (.int i), c.one rfl⟩
  | str z h => subst h; exact ⟨_, .base (.str z), c.one rfl⟩
  | lst p xs h e => subst h; exact ⟨_, .base (.lst e), c.one rfl⟩
  | tup p xs h e => subst h; exact ⟨_, .base (.tup e), c.one rfl⟩
  | dct p kvs h e => subst h; exact ⟨_, .base (.dK e), c.one rfl⟩
/-- a value that is an instance, or none -/
inductive Od (α : Type) where
  | is (a : α)
  | no
def Od.isIs {α : Type} : Od α → Bool
  | .is _ => true
  | .no => false
instance {α : Type} [Rp α] : Rp (Od α) := ⟨fun H v o => match o with
  | .is a => rp H v a
  | .no => NoP H v, fun {H H' v o} s h => by
    cases o with
    | is a => exact rup s (show rp H v a from h)
    | no => exact NoP.up s (show NoP H v from h)⟩
class NoI (α : Type) [Rp α] : Prop where
  no : ∀ {H : Hp} {v : V} {a : α}, rp H v a → NoP H v
instance : NoI Unit := ⟨fun h => .non h⟩
instance : NoI Bool := ⟨fun h => .bl _ h⟩
instance : NoI Int := ⟨fun h => .int _ h⟩
instance : NoI Str := ⟨fun h => .str _ h⟩
instance {α : Type} [Rp α] : NoI (List α) := ⟨fun ⟨p, xs, e, h, _⟩ => .lst p xs e h⟩
instance {α β : Type} [Rp α] [Rp β] : NoI (α × β) := ⟨fun ⟨p, x, y, e, h, _⟩ => .tup p _ e h⟩
instance {β : Type} [Rp β] : NoI (DctS β) := ⟨fun ⟨p, kvs, e, h, _⟩ => .dct p kvs e h⟩
section
variable {α β γ δ : Type} [Rp α] [Rp β] [Rp γ] [Rp δ] {X : Cx} {a b c e tg : Expr} {σ : St} {G : Hp} {pos p q px : Pos} {rest : List Stmt} {C : Addr}
theorem Ev.no {a : α} [NoI α] (h : Ev X e σ G a) : Ev X e σ G (Od.no : Od β) := fun G1 H1 Q s1 s2 k => h G1 H1 Q s1 s2 fun G2 H2 v g r => k G2 H2 v g (NoI.no r)
theorem Ev.is {a : α} (h : Ev X e σ G a) : Ev X e σ G (Od.is a) := fun G1 H1 Q s1 s2 k => h G1 H1 Q s1 s2 fun G2 H2 v g r => k G2 H2 v g r
theorem Ev.ofIs {a : α} (h : Ev X e σ G (Od.is a)) : Ev X e σ G a := fun G1 H1 Q s1 s2 k => h G1 H1 Q s1 s2 fun G2 H2 v g r => k G2 H2 v g r
theorem Ev.unopt {a : α} (h : Ev X e σ G (some a)) : Ev X e σ G a := fun G1 H1 Q s1 s2 k => h G1 H1 Q s1 s2 fun G2 H2 v g r => k G2 H2 v g r
/-- isinstance(e, C), both answers -/
theorem Ev.isCO [In1 α C] {d : Od α} {x : Str} (B : Bt X.mg) (c : C8.InsC X.K C) (nc : NotC X.K C) (hm : X.mg x = some (.ref C)) (h : Ev X e σ G d) (hg : Gl X "isinstance" := by rfl) (hgx : Gl X x := by rfl) (hdb : (x == ("__debug__" : Str)) = false := by decide)
    (hs : starEach [e, .Name x q] X.env = (false, eval e X.env) :: starEach [.Name x q] X.env := by rfl) (hs2 : starEach [.Name x q] X.env = (false, eval (.Name x q) X.env) :: starEach [] X.env := by rfl) (hpl : (backTo pos (starEach [.Name x q] X.env)).any (·.1) = false := by rfl) :
    Ev X (.Call (.Name "isinstance" p) [e, .Name x q] [] pos) σ G d.isIs := fun G1 H1 Q s1 s2 k =>
  WE.of (pe_callB call_isi hg B.isinstance boot_isinstance' (pa_cons pe_we (pa_cons (pe_glob (v := .ref C) hgx hm rfl hdb) pa_nil hs2) hs) (by decide) (by decide) hs hpl) (h G1 H1 _ s1 s2 fun G2 H2 v g r => by
    cases d with
    | is d =>
      have r : rp G2 v d := r
      obtain ⟨a, dx, fs, rfl, h1⟩ := In1.ins r
      exact ⟨_, _, _, _, true, rfl, .own C, .base (.ins (g.s _ _ h1) c.cl c.ha c.hn c.htk c.hm), c.me, k _ _ _ g rfl⟩
    | no =>
      have r : NoP G2 v := r
      obtain ⟨t, h1, h2⟩ := (r.up g.s).ty nc
      exact ⟨_, _, _, _, false, rfl, .own C, h1, h2, k _ _ _ g rfl⟩)
/-! ### is True, is False -/
theorem Ev.isB {y z : Bool} (ha : Ev X a σ G y) (hb : Ev X b σ G z) (hm : behindInMarks .Is b = false := by rfl) : Ev X (.Compare a [.Is] [b] pos) σ G (decide (y = z)) :=
  Ev.cmp op_isBl hm (fun G H u v Q s r1 r2 k => by cases r1; cases r2; exact ⟨_, _, rfl, rfl, k _ _ _ (GrM.refl s) rfl⟩) ha hb
theorem ET.isB {y z : Bool} (ha : Ev X a σ G y) (hb : Ev X b σ G z) (hm : behindInMarks .Is b = false := by rfl) : ET X (.Compare a [.Is] [b] pos) σ G (decide (y = z)) :=
  ET.cmp op_isBl hm (fun G H u v Q s r1 r2 k => by cases r1; cases r2; exact ⟨_, _, rfl, rfl, k _ _ _ (GrM.refl s) rfl⟩) ha hb
theorem ET.notB {y z : Bool} (ha : Ev X a σ G y) (hb : Ev X b σ G z) (hm : behindInMarks .IsNot b = false := by rfl) : ET X (.Compare a [.IsNot] [b] pos) σ G (!decide (y = z)) :=
  ET.cmp op_notBl hm (fun G H u v Q s r1 r2 k => by cases r1; cases r2; exact ⟨_, _, rfl, rfl, k _ _ _ (GrM.refl s) rfl⟩) ha hb
/-! ### d[x] of a dict with text keys -/
def lkS (z : Str) : List (Str × β) → Option β
  | [] => none
  | kv :: l => if kv.1 = z then some kv.2 else lkS z l
theorem lk_val {G : Hp} {z : Str} {d : β} : ∀ {kvs : List (Key × V)} {l : List (Str × β)}, Paired (KvR G) kvs l → lkS z l = some d → ∃ v, valV kvs (Sum.inr z) = some v ∧ rp G v d
  | _, _, .nil, h => by cases h
  | kv :: kvs, q :: l, .cons r t, h => by
    unfold lkS at h
    by_cases e : q.1 = z
    · rw [if_pos e] at h
      cases h
      have e1 : kv.1 = Sum.inr z := by rw [r.1, e]
      exact ⟨kv.2, by rw [valV_pos e1], r.2⟩
    · rw [if_neg e] at h
      have e1 : ¬ kv.1 = Sum.inr z := fun h => e (Sum.inr.inj (r.1.symm.trans h))
      rw [valV_neg e1]
      exact lk_val t h
theorem Ev.dget {z : Str} {D : DctS β} {d : β} (hu : X.A.units + 1 < cLine) (ha : Ev X a σ G D) (hb : Ev X b σ G z) (h : lkS z D.kvs = some d) (hs : NoSl b := by exact fun _ _ => rfl) : Ev X (.Subscript a b pos) σ G d := fun G1 H1 Q s1 s2 k =>
  WE.of (pe_dget hu pe_we pe_we hs) (ha G1 H1 _ s1 s2 fun G2 H2 v g r => hb G2 H2 _ (s1.trans g.g) g.s fun G3 H3 u g2 r2 => by
    cases r2
    obtain ⟨q, kvs, rfl, h1, pr⟩ := rup g2.g r
    obtain ⟨w, hw, rw'⟩ := lk_val pr h
    exact ⟨q, w, rfl, by have := DGet.k (k := Sum.inr z) (g2.s _ _ h1); rw [hw] at this; exact this, k _ _ _ (g.trans g2) rw'⟩)
/-- {} -/
theorem Ev.dict0 : Ev X (.Dict [] [] pos) σ G (DctS.mk ([] : List (Str × β))) := fun G1 H1 Q s1 s2 k =>
  WE.of pe_dnewK fun p hp => k _ _ _ (Gr.new (o := .dK []) s2 hp) ⟨p, [], rfl, upd_same, .nil⟩
end
/-! ### a pair whose first part may be None, shown -/
instance {α β : Type} [Rp α] [Rp β] [Da α] [Da β] [Sh α] [Sh β] : Sh (Option α × β) := ⟨fun p => (match p.1 with | none => 4 | some a => Sh.cost a) + Sh.cost p.2 + 6, fun p h => by
    show PyData.showable (.tuple [toD p.1, toD p.2]) = true
    simp only [PyData.showable, PyData.showableAll, Bool.and_true, Bool.and_eq_true]
    refine ⟨?_, Sh.sh p.2 h.2⟩
    obtain ⟨o, b⟩ := p
    cases o with
    | none => rfl
    | some a => exact Sh.sh a (h.1 a rfl), fun p h => by
    show (PyData.shown (.tuple [toD p.1, toD p.2])).length ≤ _
    simp only [PyData.shown, PyData.shownAll]
    have h1 := fmt_text [(toD p.1).shown, (toD p.2).shown]
    have h3 := Sh.le p.2 h.2
    obtain ⟨o, b⟩ := p
    rw [piled_cons, piled_cons, piled_nil] at h1
    simp only at h1 h3
    cases o with
    | none =>
      have h2 : (toD (none : Option α)).shown.length ≤ 4 := by show (PyData.shown .none).length ≤ 4; decide +kernel
      have e3 : (toD b).shown.length ≤ Sh.cost b := h3

      show (tupleText [(toD (none : Option α)).shown, (toD b).shown]).length ≤ 4 + Sh.cost b + 6
      omega
    | some a =>
      have h2 : (toD (some a)).shown.length ≤ Sh.cost a := Sh.le a (h.1 a rfl)
      have e3 : (toD b).shown.length ≤ Sh.cost b := h3

      show (tupleText [(toD (some a)).shown, (toD b).shown]).length ≤ Sh.cost a + Sh.cost b + 6
      omega, fun p => .inr (.inl ⟨_, rfl⟩)⟩
end D1

namespace D1
open PySem L2 Rp Da
section
variable {α β γ δ : Type} [Rp α] [Rp β] [Rp γ] [Rp δ] {X : Cx} {a b c d e tg : Expr} {σ : St} {G : Hp} {pos p q px : Pos} {rest : List Stmt} {C : Addr}
theorem P2F.imp {pre : α → β → Prop} {f : α → β → γ} {vs : List V} {H : Hp} {Q : VK} {E : XK} (h : P2 pre f vs H Q E) : P2F pre f vs H Q E := by
  obtain ⟨G, u, v, a, b, e, s, r, r2, p, k⟩ := h
  exact ⟨G, u, v, a, b, e, s, r, r2, p, fun G' H' w g r => k G' H' w g (rup dif_same r)⟩
/-- xs + ys of texts: the list is new -/
theorem EvF.catS {l m : List Str} (ha : Ev X a σ G l) (hb : Ev X b σ G m) (h : l.length + m.length ≤ sizeLine) : EvF X (.BinOp a .Add b pos) σ G (l ++ m) := fun G1 H1 Q s1 s2 k =>
  we_op op_cat (ha G1 H1 _ s1 s2 fun G2 H2 v g r => hb G2 H2 _ (s1.trans g.g) g.s fun G3 H3 u g2 r2 => by
    obtain ⟨p, xs, rfl, h1, q1⟩ := rup g2.g r
    obtain ⟨p2, ys, rfl, h2, q2⟩ := r2
    have e1 := strs_of q1
    have e2 := strs_of q2
    subst e1 e2
    refine ⟨p, p2, _, _, rfl, rfl, g2.s _ _ h1, g2.s _ _ h2, by rw [List.length_map, List.length_map]; exact h, fun q hq => ?_⟩
    have g12 := g.trans g2
    have gn := Gr.new (o := .lst (l.map V.str ++ m.map V.str)) g2.s hq
    exact k _ _ _ (g12.trans gn) ⟨q, _, rfl, new_lst g12 hq, by rw [← List.map_append]; exact strs_to _⟩)
/-- y = [x for x in texts if c]: the list is new -/
theorem ws_asgSelF (i j : Nat) {x y : Str} {px2 py spos : Pos} {iter : Expr} {scope : Scope} {l : List Str} {t : Str → Bool} {G1 H1 : Hp} {D : Ends} (s1 : Same G G1) (s2 : Same G1 H1) (hi : EI X (.Name x px) iter σ G l)
    (ht : ∀ d ∈ l, ∀ G' v, Same G G' → rp G' v d → ∀ s H C cl fp, ET (BK X s H scope C cl fp) c ((wipe σ [j]).set j (some v)) G' (t d))
    (k : ∀ G2 H2 v, Gr G1 H1 G2 H2 → rp (dif G2 H1) v (l.filter t) → WS X rest D (σ.set i (some v)) H2) (hz : l.length < sizeLine) (hN : X.N.Nodup) (ok : BlkOk X.N X.env.scope scope [(x, j)])
    (hsw : swapsWith (.ListComp (.Name x px2) [⟨.Name x px, iter, [c], 0⟩] scope pos) (some (.Name y py)) spos.line X.env = pure true := by rfl) (hx : X.N[j]? = some x := by rfl) (lx : Loc (relS scope X.env.scope) x := by first | exact Or.inl rfl | exact Or.inr rfl)
    (fx : (scope.names.lookup x == some .cell) = true ∨ (relS scope X.env.scope).names.lookup x = some .local := by first | exact .inr rfl | exact .inl rfl) (vx : Vis (relS scope X.env.scope) x := by first | exact Or.inl rfl | exact Or.inr (Or.inl rfl) | exact Or.inr (Or.inr rfl)) (hd : (x == ("__debug__" : Str)) = false := by decide) (hcd : (x == ("__classdict__" : Str)) = false := by decide)
    (hc : X.calm = true := by rfl) (hy : X.N[i]? = some y := by rfl) (hyl : X.env.scope.names.lookup y = some .local := by rfl) (hs : ∀ x, foldedSetIterable iter X.env x = pure x := by intro _; rfl) (hjl : ∀ v : V, ((wipe σ [j]).set j (some v))[j]? = some (some v) := by intro _; rfl) :
    WS X (.Assign [.Name y py] (.ListComp (.Name x px2) [⟨.Name x px, iter, [c], 0⟩] scope pos) spos :: rest) D σ H1 :=
  WS.cons (ps_setLc (own := [(x, j)]) (g := gName j) (tt := ATs X scope [c]) (te := AE X scope (.Name x px2)) hc hN hy hyl hsw pi_wi ok (fun _ _ _ _ _ => pg_name hN hx lx fx) (fun s H C cl fp => ⟨fun pins s1 σ' H' Q' I h => h s H C cl fp pins s1 I⟩) (fun s H C cl fp => ⟨fun pins s1 σ' H' Q' I h => h s H C cl fp pins s1 I⟩) hs)
    (hi G1 H1 _ s1 s2 fun J S Y G2 H2 g2 w hS hY L hL => by
      have key := lc_data (f := fun d : Str => d) (t := t) (Qd := fun v H3 => v = .ref L → WS X rest D (σ.set i (some v)) H3) (tt := ATs X scope [c]) (te := AE X scope (.Name x px2)) (vs := [j]) w hS hY (tgB1 (i := j)) (fun _ _ _ b => wipe_b1 b)
        (fun d hd' G' σ' sG b H' Q' s3 k' s H C cl fp pins s1' I => by
          obtain ⟨v, r, e⟩ := b
          subst e
          exact ETs.one (ht d hd' G' v ((s1.trans g2.g).trans sG) r s H C cl fp) G' H' Q' (Same.refl _) s3 k' pins s1' I)
        (fun d hd' td G' σ' sG b G1' H' Q' s3 s4 k' s H C cl fp => by
          obtain ⟨v, r, e⟩ := b
          subst e
          exact (Ev.v (X := BK X s H scope C cl fp) j (v := v) (d := d) (hjl v) r hx vx hd hcd) G1' H' Q' s3 s4 k')
        hz g2.s hL (fun G3 H3 v g3 r ev => by
          subst ev
          rw [List.map_id'] at r
          obtain ⟨p, xs, e, hp, pr⟩ := r
          cases e
          have e1 := strs_of pr
          subst e1
          exact k G3 H3 _ (g2.trans g3) ⟨L, _, rfl, by rw [dif_none (g2.fresh hL)]; exact hp, strs_to _⟩)
      obtain ⟨W, h1, h2⟩ := key
      exact ⟨W, h1, fun i m H w => (h2 i m H w).imp (fun ⟨a, b⟩ => ⟨a, b rfl⟩) id⟩)
/-- a, b, c = e, where e hands back a tuple of three -/
theorem ws_asg3W (i j l : Nat) {x y z : Str} {px py pz pt : Pos} {kt} {H1 : Hp} {D : Ends} (h : WE X e σ H1 fun v H2 => ∃ p u w t, v = .ref p ∧ SqT X.K H2 p [u, w, t] ∧ WS X rest D (((σ.set i (some u)).set j (some w)).set l (some t)) H2)
    (hN : X.N.Nodup) (hc : X.calm = true := by rfl) (hi : X.N[i]? = some x := by rfl) (hj : X.N[j]? = some y := by rfl) (hl : X.N[l]? = some z := by rfl) (hx : Loc X.env.scope x := by first | exact Or.inl rfl | exact Or.inr rfl) (hy : Loc X.env.scope y := by first | exact Or.inl rfl | exact Or.inr rfl) (hz : Loc X.env.scope z := by first | exact Or.inl rfl | exact Or.inr rfl)
    (fx : X.fn x = true ∨ X.env.scope.names.lookup x = some .local := by first | exact .inl rfl | exact .inr rfl) (fy : X.fn y = true ∨ X.env.scope.names.lookup y = some .local := by first | exact .inl rfl | exact .inr rfl) (fz : X.fn z = true ∨ X.env.scope.names.lookup z = some .local := by first | exact .inl rfl | exact .inr rfl)
    (h1 : (assignEach [.Name x px, .Name y py, .Name z pz] X.env).map (·.2) = assign (.Name x px) X.env :: (assignEach [.Name y py, .Name z pz] X.env).map (·.2) := by rfl) (h2 : (assignEach [.Name y py, .Name z pz] X.env).map (·.2) = assign (.Name y py) X.env :: (assignEach [.Name z pz] X.env).map (·.2) := by rfl)
    (h3 : (assignEach [.Name z pz] X.env).map (·.2) = assign (.Name z pz) X.env :: (assignEach [] X.env).map (·.2) := by rfl)
    (hn : (assignEach [.Name x px, .Name y py, .Name z pz] X.env).length = 3 := by rfl) (hst : (assignEach [.Name x px, .Name y py, .Name z pz] X.env).findIdx? (·.1) = none := by rfl)
    (hs : swapsWithSole [.Tuple [.Name x px, .Name y py, .Name z pz] kt pt] e pos.line X.env = pure false := by rfl) (hw : swappedStores [.Tuple [.Name x px, .Name y py, .Name z pz] kt pt] e X.env = pure none := by rfl) (ha : (assignEach [.Tuple [.Name x px, .Name y py, .Name z pz] kt pt] X.env).map (·.2) = [assign (.Tuple [.Name x px, .Name y py, .Name z pz] kt pt) X.env] := by rfl) :
    WS X (.Assign [.Tuple [.Name x px, .Name y py, .Name z pz] kt pt] e pos :: rest) D σ H1 :=
  WS.cons (ps_asg pe_we (pg_three hc hN hi hj hl hx hy hz fx fy fz h1 h2 h3 hn hst) hs hw ha) (WE.mono h fun v H2 ⟨p, u, w, t, e1, e2, k⟩ => by
    subst e1
    exact ⟨p, [u, w, t], rfl, e2, rfl, u, _, rfl, w, _, rfl, t, _, rfl, rfl, k⟩)
end
end D1

namespace D1
open PySem PySem.Spec L2 Rp PyProof.Rows NdefX
section
variable {CX : CXT} {P : Program} {w : World} {K : PySem.W.Frag} {mg : Str → Option Value} {base : Heap} {N ps fr : List Str} {F : NF} {f : Addr} {k : Nat} {sp : Sp}
/-- a written def that captures cells, by its body at its frame -/
theorem fnAt_of {oc : Value} {od : Option Addr} {dV kV doc pm ctv : Value} {an : Option Addr} {osl : Array (Option Value)} {ws : List (Option V)} (S : NScope N ps fr F.scope)
    (lk : K.lookup f = some ⟨oc, od, .func (PySem.W.fnX F.name F.qual F.params F.body F.scope F.cl dV kV doc pm an (.ref F.c) ctv), osl⟩) (cd : PySem.W.codeIn K (.ref F.c) F.qual = true) (C : ∀ h H, K.In h → (∀ b o, K.lookup b = some o → H b = none) → CellsAt F.cl fr ws h H) (len : ∀ vs H Q E, sp vs H Q E → vs.length = ps.length)
    (hbody : ∀ (A : Around) (outer : List Env) (s : Shared) (H : Hp) (vs : List V) (Q : VK) (E : XK), Room k (A.deeper (envF F f s.heap.objs.size)) → sp vs H Q E → ∀ s1, Inv (ncx CX P w K mg base N F f A outer s H E) [] (startF N vs ws) H s1 →
      PySem.wpAt (model P w) (A.deeper (envF F f s.heap.objs.size)) (.func F.body (envF F f s.heap.objs.size)) (execs F.body (envF F f s.heap.objs.size)) (SP (ncx CX P w K mg base N F f A outer s H E) [] { nx := fun _ H' => Q .non H', rt := Q }) (ncx CX P w K mg base N F f A outer s H E).xe s1) :
    FnOk P w K mg base CX (k + 1) f (PySem.W.fnX F.name F.qual F.params F.body F.scope F.cl dV kV doc pm an (.ref F.c) ctv) ps sp := by
  refine ⟨len, fun A outer s H args us vs Q E hr e0 hb r ask => ?_⟩
  have len0 := len _ _ _ _ ask
  have inK : K.In s.heap := e0.mod.kin.keeps fun b o e => (e0.bs b o e).1
  have free0 : s.heap.NoLimit := e0.mod.nolimit.keeps fun b o e => (e0.bs b o e).1
  have noK : ∀ b o, K.lookup b = some o → H b = none := fun b o e => (e0.bs b o (e0.mod.kin b o e)).2
  refine codeAny_call_function hr.depth (inK _ _ lk) rfl S.co S.gen rfl (PySem.W.codeRec_of inK cd) (hb _ _ _ _ ?_)
  refine wpAny_newFunctionEnv S.nocell (fun ⟨n, _⟩ hy => S.par n (List.of_mem_zip hy).1) (fun h₁ ns0 but0 => ⟨free0.fresh _ but0, ?_⟩) S.kind
  refine ks_codeAny_funcAt ?_
  have kept0 : ∀ b o, s.heap.get? b = some o → h₁.get? b = some o := fun b o e => but0.extBut b o (Nat.ne_of_lt (Heap.lt_size e)) (Heap.get?_push_of_some _ e)
  have I : Inv (ncx CX P w K mg base N F f A outer s H E) [] (startF N vs ws) H { s with heap := h₁, toks := s.toks + (ps.zip us).length } := inv_startN S hr.hd e0 len0 r (C _ _ inK noK) ns0 kept0
  refine ks_wpAt_mono (hbody A outer s H vs Q E (hr.deeper _) ask _ I) (fun fl t9 hs => ?_) fun e t9 hs => hs
  have close0 : ∀ {τ1 : L2.St} {H9 : Hp} {v : V} {u : Value}, Inv (ncx CX P w K mg base N F f A outer s H E) [] τ1 H9 t9 → L2.RelV v u → Q v H9 → CE outer P w H s Q u t9 :=
    fun {τ1 H9 v u} Iv9 rv q => ⟨v, H9, Iv9.os, Iv9.bare, Iv9.base, Iv9.hok, rv, q⟩
  cases fl with
  | ret u =>
    obtain ⟨v, τ1, H9, Iv9, rv, q⟩ := hs
    exact close0 Iv9 rv q
  | next =>
    obtain ⟨τ1, H9, Iv9, q⟩ := hs
    exact close0 (v := V.non) (u := Value.none) Iv9 rfl q
  | brk =>
    obtain ⟨_, _, _, q⟩ := hs
    exact False.elim q
  | cont =>
    obtain ⟨_, _, _, q⟩ := hs
    exact False.elim q
end
end D1

namespace D1
open PySem PySem.Spec L2 Rp PyProof.Rows NdefX
/-! ### error classes: def __init__(self, value=None): super().__init__(); self.value = value -/
/-- what the written part says of such a class -/
structure ErrF (K : PySem.W.Frag) (C : Addr) : Prop where
  oex : OexC K C
  sup : PySem.W.ks_superIn K C C "__init__" = some (some (.builtin "ValueError.__init__"))
  sve : PySem.W.subIn K (.ref C) (.type "ValueError") = some true
  mro : PySem.W.mroIn K C (.ref C) = some true
  val : PySem.W.findIn K (.ref C) "value" = some none
  opq : PySem.W.nsIn K cStatics "thirdparty.any" = some none
/-- .. of its __init__ -/
structure ErrI (P : Program) (K : PySem.W.Frag) (C fI : Addr) (qual : Str) (st : Stmt) (fd : FuncData) : Prop where
  ex : ∃ (oc : Value) (od : Option Addr) (T : Addr) (kV doc pm : Value) (an : Option Addr) (cda cc : Addr) (ct : Value) (osl : Array (Option Value)) (ccl : Value) (cdd : Option Addr) (vs : Array Value) (ccs : Array (Option Value)) (file : Str) (tf : Tok)
    (xcl : Value) (xcd : Option Addr) (xcs : Array (Option Value)) (oT : Obj) (dv : Value) (nT : Nat),
    fd = PySem.W.fnX "__init__" qual (C8.fnArgs st) (C8.fnBody st) (C8.fnScope st) [("__class__", cc)] (.ref T) kV doc pm an (.ref cda) ct ∧
    K.lookup fI = some ⟨oc, od, .func fd, osl⟩ ∧ PySem.W.codeIn K (.ref cda) qual = true ∧
    K.lookup cda = some ⟨ccl, cdd, .fields vs, ccs⟩ ∧ vs[2]? = some (.str file tf) ∧ ((P.main.file : Str) == file) = true ∧
    K.lookup cc = some ⟨xcl, xcd, .cell (some (.ref C)), xcs⟩ ∧ K.lookup T = some oT ∧ oT.data = .seq #[dv] nT
/-- what such an __init__ does -/
def PErr (C : Addr) : Sp := fun vs H Q _ => ∃ a v, vs = [.ref a, v] ∧ H a = some (exo a C none) ∧ ∀ dx, H dx = none → dx ≠ a → Q .non (upd (upd H dx (exd dx [("value", v)])) a (exo a C (some dx)))
section
variable {X : Cx} {pins : List (Addr × Obj)} {σ : L2.St} {H : Hp} {s : Shared} {A : Around} {E : Value → Shared → Prop}
/-- the bound ValueError.__init__ called with nothing -/
theorem bound_init {u a C : Addr} {Q : Value → Shared → Prop} (T : OexC X.K C) (I : Inv X pins σ H s) (e : H a = some (exo a C none)) (hu : s.heap.get? u = some (PySem.W.kxs_mw "ValueError.__init__" a)) (h : ∀ s', Inv X pins σ H s' → Q .none s') :
    wpAny (model X.prog X.w) A (call (.ref u) []) Q E s := by
  obtain ⟨nm, q, N, bs, bm, sn, sub, ab, col, dd, k0, k1, k2, k3, k5, hC, hbm⟩ := T.cls
  obtain ⟨t1, ho⟩ := exo_at I.hok e
  obtain ⟨hh, g, d, tk, os⟩ := s
  refine wpAny_call (codeAny_of_tree ?_)
  show wpAny _ A.in1 (callAny (.ref u) ⟨[], []⟩) _ _ _
  simp only [callAny]
  refine wpAny_bind (wpAny_load hu ?_)
  simp only [PySem.W.kxs_mw, show (Value.type "method-wrapper" == Value.type "method" || Value.type "method-wrapper" == Value.type "builtin_function_or_method" || Value.type "method-wrapper" == Value.type "method-wrapper") = true by decide, if_true]
  refine PySem.W.KFB.if_so (by decide) ?_
  refine wpAny_bind (PySem.W.check_bound_init F.excBase_ValueError.toExcCallFacts (I.kIn _ _ hC) ho rfl ?_)
  refine wpAny_bind (wpAny_pure (wpAny_pure ?_))
  refine ⟨plainId_quiet F.excBase_ValueError.init.plain _, codeAny_builtin F.excBase_ValueError.initEntry ?_⟩
  refine PySem.W.exc_init_tree (cls := .ref C) (t0 := t1) (dv := none) (c2 := .none) (c3 := .none) (b4 := .bool false) ho (by decide) fun h' k hx _ => ?_
  have J := I.write (t' := tk) (x := a) (e := a) (o := exo a C none) (by rw [e]; exact True.intro) (.inl rfl) k ⟨_, hx⟩ (exo_ok hx)
  have eu : upd H a (exo a C none) = H := by
    funext b
    by_cases hb : b = a
    · rw [hb, upd_same, e]
    · rw [upd_ne hb]
  rw [eu] at J
  exact h _ J
/-- a slot's name is loaded -/
theorem load_slot {i : Nat} {x : Str} {v : V} {Q : Value → Shared → Prop} (I : Inv X pins σ H s) (hN : X.N[i]? = some x) (hσ : σ[i]? = some (some v)) (hl : X.env.kindOf x = some .local) (h : ∀ u, RelV v u → Q u s) : wpAny (model X.prog X.w) A (loadName X.env x) Q E s := by
  obtain ⟨m, hn, hs⟩ := I.loc
  obtain ⟨u, ru, hk⟩ := hs i x v hN hσ (.inl hl)
  rcases hk with ⟨_, e⟩ | ⟨z, _⟩
  · exact wpAny_loadName_local I.ok.kind hl hn e (h u ru)
  · rw [hl] at z
    rcases z with z | z <;> cases z
end
section
variable {CX : CXT} {P : Program} {w : World} {K : PySem.W.Frag} {mg : Str → Option Value} {base : Heap} {C fI : Addr} {qual : Str} {st : Stmt} {fd : FuncData} {k : Nat}
theorem ErrI.binds (W : ErrI P K C fI qual st fd)
    (h : ∀ (T : Addr) (cl : List (Str × Addr)) (kV doc pm : Value) (an : Option Addr) (cdv ct : Value) (u1 u2 : Value) (dv : Value), ∃ k, bindArgs (PySem.W.fnX "__init__" qual (C8.fnArgs st) (C8.fnBody st) (C8.fnScope st) cl (.ref T) kV doc pm an cdv ct) ⟨[u1, u2], []⟩ = seqItems? (.ref T) >>= k ∧ k (some #[dv]) = pure [(("self" : Str), u1), (("value" : Str), u2)]) :
    Binds K fd ["self", "value"] [] := by
  obtain ⟨oc, od, T, kV, doc, pm, an, cda, cc, ct, osl, ccl, cdd, vs, ccs, file, tf, xcl, xcd, xcs, oT, dv, nT, rfl, lk, hcd, lc, hv, hf, lcc, lT, dT⟩ := W.ex
  intro s us X hlen
  match us, hlen with
  | [u1, u2], _ =>
    obtain ⟨k, e1, e2⟩ := h T [("__class__", cc)] kV doc pm an (.ref cda) ct u1 u2 dv
    refine L2.BindsTo.of_looks fun M => ?_
    rw [e1]
    exact looks_items X lT dT (.of_pure e2)
theorem err_ok {p0 p1 p2 p3 p4 p5 p6 p7 p8 : Pos} (T : ErrF K C) (W : ErrI P K C fI qual st fd) (hsuper : mg "super" = none) (hb : C8.fnBody st = [.Expr (.Call (.Attribute (.Call (.Name "super" p0) [] [] p1) "__init__" p2) [] [] p3) p4, .Assign [.Attribute (.Name "self" p5) "value" p6] (.Name "value" p7) p8])
    (S : NScope ["self", "value", "__class__"] ["self", "value"] ["__class__"] (C8.fnScope st)) (hks : (C8.fnScope st).names.lookup ("super" : Str) = some .globalImplicit) (ha : ((C8.fnArgs st).posonlyargs ++ (C8.fnArgs st).args).head?.map (·.arg) = some ("self" : Str))
    (he : ∀ env : Env, ∃ pl : Sem Bool, eval (.Call (.Attribute (.Call (.Name "super" p0) [] [] p1) "__init__" p2) [] [] p3) env = (do
      let ov ← attributeBase (.Call (.Name "super" p0) [] [] p1) "__init__" env (eval (.Call (.Name "super" p0) [] [] p1) env)
      standAt p2.atName
      let (f, first) ← holding [ov] (getMethod ov "__init__" pl)
      callWith p3 f first (backTo p3 (starEach [] env)) []))
    (htop : (P.main.scope.names.lookup ("super" : Str)).isSome = false) : FnOk P w K mg base CX (k + 1) fI fd ["self", "value"] (PErr C) := by
  obtain ⟨oc, od, TT, kV, doc, pm, an, cda, cc, ct, osl, ccl, cdd, vs, ccs, file, tf, xcl, xcd, xcs, oT, dv, nT, rfl, lk, hcd, lc, hv, hf, lcc, lT, dT⟩ := W.ex
  refine fnAt_of (F := ⟨"__init__", qual, C8.fnArgs st, C8.fnBody st, C8.fnScope st, [("__class__", cc)], cda⟩) (ws := [none]) S lk hcd (fun h H KX fr => ⟨rfl, fun y c e => ?_, fun x y c e1 e2 => ?_, fun i y e => ?_⟩) (fun vs H Q E ⟨a, v, e, _⟩ => by rw [e]; rfl) ?_
  · by_cases hy : y = ("__class__" : Str)
    · subst hy
      have e2 : cc = c := by simpa [List.lookup] using e
      subst e2
      exact ⟨fr _ _ lcc, _, _, KX _ _ lcc, rfl⟩
    · have hb2 : (y == ("__class__" : Str)) = false := by simpa using hy
      simp [List.lookup, hb2] at e
  · have key : ∀ z : Str, List.lookup z [(("__class__" : Str), cc)] = some c → z = "__class__" := fun z e => by
      by_cases hy : z = ("__class__" : Str)
      · exact hy
      · have hb2 : (z == ("__class__" : Str)) = false := by simpa using hy
        simp [List.lookup, hb2] at e
    exact (key x e1).trans (key y e2).symm
  · match i, e with
    | 0, e =>
      cases e
      exact ⟨cc, by simp [List.lookup], fun v e => by cases e⟩
    | i + 1, e => simp at e
  · intro A outer s H vs Q E hr ⟨a, v, ev, ea, hq⟩ s1 I
    subst ev
    have hsel : ((C8.fnArgs st).posonlyargs ++ (C8.fnArgs st).args).head?.map (·.arg) = some ("self" : Str) := ha
    obtain ⟨ar, har, eself⟩ : ∃ ar, ((C8.fnArgs st).posonlyargs ++ (C8.fnArgs st).args).head? = some ar ∧ ar.arg = ("self" : Str) := by
      cases e : ((C8.fnArgs st).posonlyargs ++ (C8.fnArgs st).args).head? with
      | none => rw [e] at hsel; cases hsel
      | some ar => rw [e] at hsel; exact ⟨ar, rfl, Option.some.inj hsel⟩
    have hbd : (NF.mk "__init__" qual (C8.fnArgs st) (C8.fnBody st) (C8.fnScope st) [("__class__", cc)] cda).body = _ := hb
    rw [hbd]
    obtain ⟨nm, q, N, bs, bm, sn, sub, ab, col, dd, k0, k1, k2, k3, k5, hC, hbm⟩ := T.oex.cls
    have KX := I.kIn
    obtain ⟨pl, hev⟩ := he (envF (NF.mk "__init__" qual (C8.fnArgs st) (C8.fnBody st) (C8.fnScope st) [("__class__", cc)] cda) fI s.heap.objs.size)
    refine PySem.ks_wpAt_execs_cons (PySem.ks_wpAt_Expr_any (hi := by unfold interactive; rw [show (envF (NF.mk "__init__" qual (C8.fnArgs st) (C8.fnBody st) (C8.fnScope st) [("__class__", cc)] cda) fI s.heap.objs.size).scope.kind = .function from S.kind]; rfl) (PySem.ks_wpAt_MethodCall (pl := pl) (he := hev) (PySem.ks_wpAt_super_base (ar := ar) (fd := PySem.W.fnX "__init__" qual (C8.fnArgs st) (C8.fnBody st) (C8.fnScope st) [("__class__", cc)] (.ref TT) kV doc pm an (.ref cda) ct) hks (S.frk _ (by simp)) rfl rfl (KX _ _ lk) rfl har rfl (KX _ _ lc) rfl hv hf htop ?_)))
    obtain ⟨mb, hb1, hb2⟩ := I.mod.blt
    refine PySem.W.ks_loadName_global S.kind hks (Calls.loadGlobal_builtin (I.mod.glob.keeps I.bk) hsuper (hb1.keeps I.bk) ((hb2 "super" (by decide)).trans (show bootBuiltins "super" = some (.type "super") from by rw [PyProof.Rows.Boot.«super»])) ⟨rfl, ?_⟩)
    refine wpAny_loadName_free S.kind (S.frk _ (by simp)) (c := cc) (by simp [List.lookup]) ⟨_, KX _ _ lcc, rfl⟩ ?_
    rw [eself]
    refine load_slot I (i := 0) rfl rfl (S.par _ (by simp)) fun u ru => ?_
    obtain rfl : u = Value.ref a := ru
    have hCt := KX _ _ hC
    obtain ⟨t1, ho⟩ := exo_at I.hok ea
    refine PySem.ks_wpAny_isType_cls hCt rfl ⟨rfl, ?_⟩
    obtain ⟨hh, g, d, tk, os⟩ := s1
    refine PySem.ks_wpAny_call_super hCt rfl ho rfl (fun c e => nomatch e) (PySem.W.looks_mroIn KX T.mro) fun h2 hso k2 => ?_
    have I2 := I.kept (t' := tk) k2
    have KX2 := I2.kIn
    have hne : a ≠ C := fun z => by
      have q2 := (I.bs C _ (I.mod.kin _ _ hC)).2
      rw [← z, ea] at q2
      cases q2
    have hsup := T.sup
    unfold PySem.W.ks_superIn at hsup
    have hcl : PySem.W.clsIn K C = some { name := nm, bases := bs, mro := .ref C :: bm, ns := N, qualname := q, hasDict := true, slotNames := sn, subclasses := sub, abstract := ab, collection := col, hasDel := false } := by unfold PySem.W.clsIn; rw [hC] <;> rfl
    rw [hcl] at hsup
    have ho2 := k2 _ _ ho
    have LI : PySem.W.Looks (model P w) h2 (isInstance (.ref a) (.type "ValueError")) true := (show PySem.W.Looks (model P w) h2 (typeOf (.ref a)) (.ref C) from fun A Q E s k q => wpAny_typeOf_ref (k _ _ ho2) q).andThen (PySem.W.looks_subIn KX2 T.sve)
    refine PySem.W.kxs_getMethod PySem.W.kxs_ValueError hso (PySem.W.looks_opaque KX2 T.opq) (l₀ := .ref C :: bm) (fun A Q E s k q => wpAny_bind ((PySem.W.looks_clsIn KX2 hcl) A _ E s k (wpAny_pure q))) rfl KX2 hsup LI hne (by decide) ?_
    have I3 := I2.kept (t' := tk + 1) (h' := h2.push (PySem.W.kxs_mw "ValueError.__init__" a)) (fun b o e => Heap.get?_push_of_some _ e)
    refine PySem.W.kxs_callWith (i := "ValueError.__init__") (x := a) rfl (evalArgs_empty ⟨Heap.get?_push_at rfl rfl, ?_⟩)
    refine bound_init T.oex I3 ea (Heap.get?_push_at rfl rfl) fun s4 I4 => ?_
    refine wpAt_of_wpAny ?_
    exact (WS.cons (ps_ost pe_we pe_we) (we_v 1 rfl (we_v 0 rfl ⟨a, C, rfl, T.oex, T.val, .inl ⟨ea, fun dx n ne => ws_nil (hq dx n ne)⟩⟩ rfl (.inl (S.par _ (by simp)))) rfl (.inl (S.par _ (by simp))))) [] s4 I4
end
end D1

namespace D1
open PySem PySem.Spec L2 Rp PyProof.Rows
/-! ### an error that was caught, kept as an object -/
def exg (a C : Addr) (d : Option Addr) : HO := .ext fun h => ∃ oe vs, h.get? a = some oe ∧ Zc (.ref C) d oe ∧ oe.data = .fields vs
theorem exg_ok {P : Program} {w : World} {H : Hp} {h : Heap} {a C : Addr} {d : Option Addr} {oe : Obj} {vs : Array Value} (e : h.get? a = some oe) (z : Zc (.ref C) d oe) (hd : oe.data = .fields vs) : ObjOk P w H h a (exg a C d) :=
  ⟨⟨oe, vs, e, z, hd⟩, ⟨_, e⟩, fun h1 h2 ⟨o, us, q, r, t⟩ k => ⟨o, us, k _ q, r, t⟩⟩
theorem exg_at {P : Program} {w : World} {H : Hp} {h : Heap} {a C : Addr} {d : Option Addr} (hok : HOk P w H h) (e : H a = some (exg a C d)) : ∃ oe vs, h.get? a = some oe ∧ Zc (.ref C) d oe ∧ oe.data = .fields vs := by
  have x : ObjOk P w H h a (.ext fun h => ∃ oe vs, h.get? a = some oe ∧ Zc (.ref C) d oe ∧ oe.data = .fields vs) := hok a _ e
  exact x.1
section
variable {X : Cx} {pins : List (Addr × Obj)} {σ : L2.St} {H : Hp} {s : Shared}
/-- an untracked object that was made here is tracked from now on -/
theorem inv_track {a : Addr} {o : HO} {oe : Obj} {vs : Array Value} (I : Inv X pins σ H s) (ha : s.heap.get? a = some oe) (hd : oe.data = .fields vs) (na : H a = none) (n0 : X.s_0.heap.get? a = none) (nL : a ≠ X.env.locals) (np : ∀ p ∈ X.pn ++ pins, p.1 ≠ a) (new : ObjOk X.prog X.w (upd H a o) s.heap a o) : Inv X pins σ (upd H a o) s := by
  have ne0 : ∀ {b : Addr} {u : Obj}, X.s_0.heap.get? b = some u → b ≠ a := fun {b u} e z => by
    rw [z, n0] at e
    cases e
  refine ⟨I.ok, I.os, I.bare, ⟨I.base.keep, I.base.slot, fun b u e n hx => ?_, I.base.there, fun b xs e => ?_, fun b u v e => ?_, fun b ps e => ?_⟩, I.loc, I.cell, ?_, fun x c e => ?_, fun p hp => ?_, fun b u e => ?_, I.len⟩
  · rw [upd_ne (ne0 e)]; exact I.base.free b u e n hx
  · have q := I.base.tups b xs e
    rw [upd_ne (ne_of_none q na)]; exact q
  · have q := I.base.frzs b u v e
    rw [upd_ne (ne_of_none q na)]; exact q
  · obtain ⟨m, q⟩ := I.base.tbls b ps e
    exact ⟨m, by rw [upd_ne (ne_of_none q na)]; exact q⟩
  · rw [upd_ne nL.symm]; exact I.free
  · have hc : c ≠ a := fun z => by
      obtain ⟨v, oc, h1, h2⟩ := I.cell x c e
      rw [z, ha] at h1
      cases h1
      rw [hd] at h2
      cases h2
    rw [upd_ne hc]; exact I.freeC x c e
  · obtain ⟨e, n, r⟩ := I.pin p hp
    exact ⟨e, by rw [upd_ne (np p hp)]; exact n, r⟩
  · by_cases hb : b = a
    · subst hb
      rw [upd_same] at e
      cases e
      exact new
    · rw [upd_ne hb] at e
      exact (I.hok b u e).stay (fun _ _ _ q => q) (fun c q => by rw [upd_ne (ne_of_none q na)]; exact q) fun c xs q => by rw [upd_ne (ne_of_none q na)]; exact q
/-- the context of an except suite whose error is tracked -/
abbrev SX (X : Cx) (a : Addr) (pn : List (Addr × Obj)) : Cx := { X with A := X.A.mark (some (.ref a)), calm := false, pn := pn, xe := fun _ _ => False }
theorem sx_ok {a : Addr} {pn : List (Addr × Obj)} (ok : X.Ok) : (SX X a pn).Ok :=
  ⟨ok.mod, ok.kind, ok.glob, ok.blt, ok.above, ok.inj, ok.has, ok.cab, (fun z => absurd (show false = true from z) Bool.false_ne_true), ok.frames, ok.stk, ok.exf, ok.bs, ok.bsz, ok.noex, ok.exfs, ok.funs, ok.frf⟩
theorem to_sx (I : Inv X pins σ H s) (a : Addr) : Inv (SX X a (X.pn ++ pins)) [] σ H s :=
  ⟨sx_ok I.ok, I.os, I.bare, I.base, I.loc, I.cell, I.free, I.freeC, fun p hp => I.pin p (by rw [List.append_nil] at hp; exact hp), I.hok, I.len⟩
theorem of_sx {a : Addr} {pn' : List (Addr × Obj)} (I : Inv (SX X a (X.pn ++ pins)) pn' σ H s) (ok : X.Ok) : Inv X pins σ H s :=
  ⟨ok, I.os, I.bare, I.base, I.loc, I.cell, I.free, I.freeC, fun p hp => I.pin p (List.mem_append_left _ hp), I.hok, I.len⟩
end
/-- what «except c as x» wishes of an error of the body: slot i is x's -/
def wCat (K : PySem.W.Frag) (c : Value) (i : Nat) (ts : Addr → Addr → Option Addr → TS) (D : Ends) : WX := fun cls d σ H => ∃ C, cls = .ref C ∧ PySem.W.exmOne K (.ref C) c = some true ∧ ∀ a, H a = none →
  ts a C d { nx := fun σ' H' => D.nx (σ'.set i none) H', rt := D.rt, bk := fun σ' H' => D.bk (σ'.set i none) H', ct := fun σ' H' => D.ct (σ'.set i none) H' } (σ.set i (some (.ref a))) (upd H a (exg a C d))
section
variable {X : Cx} {x n : Str} {c : Value} {i : Nat} {body suite rest : List Stmt} {b₀ : Stmt} {np pos pos' : Pos} {D : Ends} {σ : L2.St} {H : Hp}
theorem ws_tryAs (hs : X.stack = X.env :: X.outer) (hf : X.env.frame = some X.env.locals) (hex : X.ex = []) (hN : X.N.Nodup) (hi : X.N[i]? = some n) (hln : X.env.kindOf n = some .local) (hc : Names X x c) (ts : Addr → Addr → Option Addr → TS)
    (hsu : ∀ (a C : Addr) (d : Option Addr) (pn : List (Addr × Obj)) (D : Ends) (σ : L2.St) (H : Hp), ts a C d D σ H → WS (SX X a pn) (b₀ :: suite) D σ H)
    (hb : ∀ (pn : List (Addr × Obj)) (xe : Value → Shared → Prop), Takes (X.tr pn xe) (wCat X.K c i ts { D with nx := fun σ' H' => WS X rest D σ' H' }) → PassesOwn (model X.prog X.w) X.A X.env xe →
      WS (X.tr pn xe) body { D with nx := fun σ' H' => WS X rest D σ' H' } σ H) :
    WS X (.Try body [.ExceptHandler (some (.Name x np)) (some n) (b₀ :: suite) pos'] [] [] pos :: rest) D σ H := by
  refine WS.cons (t := fun D' σ' H' => D' = { D with nx := fun σ2 H2 => WS X rest D σ2 H2 } ∧ σ' = σ ∧ H' = H) ⟨fun pins s σ' H' D' I ⟨e1, e2, e3⟩ => ?_⟩ ⟨rfl, rfl, rfl⟩
  subst e1 e2 e3
  have ok := I.ok
  have hfr : X.A.frames = some (X.env :: X.outer) := ok.frames.trans (congrArg some hs)
  have hloc : Loc X.env.scope n := .inl hln
  let D1 : Ends := { D with nx := fun σ2 H2 => WS X rest D σ2 H2 }
  refine wpAny_Try_except (wpAny_mono (hb (X.pn ++ pins) (fun e s₁ => wpAny (model X.prog X.w) X.A (noteFrame e X.env) (fun _ s₂ => wpAny (model X.prog X.w) X.A (setFlight e none) (fun _ s₃ =>
    wpAny (model X.prog X.w) X.A (handleBy e X.env [.ExceptHandler (some (.Name x np)) (some n) (b₀ :: suite) pos']) (SP X pins D1) X.xe s₃) X.xe s₂) X.xe s₁) (fun u s' xx => ?_) PassesOwn.looking [] s (I.toTry _)) (fun f s1 hsp => ?_) fun e s1 he => he)
  · obtain ⟨a, B, sI, pins', σ', H', cls, d, rfl, J', nb, up, sky, na, os, ag, C, ec, hm, hyes⟩ := xx
    subst ec
    have J : Inv X pins σ' H' sI := J'.ofTry ok
    have sky' : Sky B (X.env :: X.outer) a (Zc (.ref C) d) X.env.locals s'.heap := hs ▸ sky
    show wpAny (model X.prog X.w) X.A (noteFrame (.ref a) X.env) _ _ _
    refine Sky.land Zc.steady hfr hf sky' fun h3 fl3 up3 => ?_
    obtain ⟨oe3, vs3, he3, hz3, hd3⟩ := fl3.there
    have J3 : Inv X pins σ' H' { s' with heap := h3 } := J.landed nb fl3.1 (up.trans up3) os ag
    have fr3 : a ∉ frs (X.env :: X.outer) := fun hmem => by
      obtain ⟨_, o', e', hnf⟩ := fl3.2.2.1.mem hmem
      rw [he3] at e'
      cases e'
      exact hnf _ hd3
    have nL : a ≠ X.env.locals := fun z => fr3 (List.mem_filterMap.mpr ⟨X.env, List.mem_cons_self, by rw [hf, z]⟩)
    have nI : sI.heap.get? a = none := by
      cases e : sI.heap.get? a with
      | none => rfl
      | some o =>
        have q := nb a o e (by rw [hs]; exact fr3)
        rw [fl3.2.1] at q
        cases q
    have n0 : X.s_0.heap.get? a = none := by
      cases e : X.s_0.heap.get? a with
      | none => rfl
      | some o =>
        obtain ⟨o', e'⟩ := J.base.there a o e (by rw [hex]; simp)
        rw [nI] at e'
        cases e'
    have S3 := to_sx J3 a
    refine wpAny_handleBy_cons (codeAny_handlers_test ?_) (by intro q; cases q)
    have LM := PySem.W.exm_one (M := model X.prog X.w) J3.kIn (show PySem.W.Looks (model X.prog X.w) h3 (typeOf (.ref a)) (.ref C) from fun A Q E s k q => wpAny_typeOf_ref (k _ _ he3) (by rw [hz3.1]; exact q)) hm
    have test : ∀ {Q E : Value → Shared → Prop}, Q c { s' with heap := h3 } → wpAny (model X.prog X.w) (X.A.mark (some (.ref a))) (eval (.Name x np) X.env) Q E { s' with heap := h3 } := fun {Q E} q => by
      obtain ⟨hg, hdb, hm2 | ⟨hm2, hv, hn2⟩⟩ := hc
      · exact ld_glob (X := SX X a (X.pn ++ pins)) S3 hg hm2 q hdb
      · exact ld_blt (X := SX X a (X.pn ++ pins)) S3 hg hm2 hv q hn2 hdb
    refine test (LM.here (codeAny_handlers_suite_as (HandSPX.lands_againZ fl3 fun h4 fl4 up4 => ?_)))
    have J4 : Inv X pins σ' H' { s' with heap := h4 } := J.landed nb fl4.1 ((up.trans up3).trans up4) os ag
    obtain ⟨oe4, vs4, he4, hz4, hd4⟩ := fl4.there
    have K4 : Inv X pins σ' (upd H' a (exg a C d)) { s' with heap := h4 } := inv_track J4 he4 hd4 na n0 nL (fun p hp z => by
      have q := (J.pin p hp).1
      rw [z, nI] at q
      cases q) (exg_ok he4 hz4 hd4)
    refine store_ok (X := SX X a (X.pn ++ pins)) (v := .ref a) (to_sx K4 a) hN hi hloc rfl (fun s5 S5 => ?_) (.inr hln)
    refine wpAny_mono (hsu a C d (X.pn ++ pins) _ _ _ (hyes a na) [] s5 S5) (fun f s6 hsp => ?_) (fun _ _ z => False.elim z)
    have end_ : ∀ {σ6 : L2.St} {H6 : Hp} {Q : Shared → Prop}, Inv (SX X a (X.pn ++ pins)) [] σ6 H6 s6 → (∀ s7, Inv X pins (σ6.set i none) H6 s7 → Q s7) →
        wpAny (model X.prog X.w) X.A (do bindName X.env n .none; unbindBehindTheSuite X.env n pos') (fun _ s7 => Q s7) X.xe s6 := fun {σ6 H6 Q} S6 hq => gone_ok (of_sx S6 ok) hN hi hln hq
    cases f with
    | next => obtain ⟨σ6, H6, S6, q6⟩ := hsp; exact end_ S6 fun s7 J7 => ⟨_, _, J7, q6⟩
    | brk => obtain ⟨σ6, H6, S6, q6⟩ := hsp; exact end_ S6 fun s7 J7 => ⟨_, _, J7, q6⟩
    | cont => obtain ⟨σ6, H6, S6, q6⟩ := hsp; exact end_ S6 fun s7 J7 => ⟨_, _, J7, q6⟩
    | ret u => obtain ⟨v6, σ6, H6, S6, r6, q6⟩ := hsp; exact end_ S6 fun s7 J7 => ⟨_, _, _, J7, r6, q6⟩
  · cases f with
    | next => obtain ⟨σ', H', J', q⟩ := hsp; exact wpAny_execs_nil ⟨σ', H', J'.ofTry ok, q⟩
    | brk => obtain ⟨σ', H', J', q⟩ := hsp; exact ⟨σ', H', J'.ofTry ok, q⟩
    | cont => obtain ⟨σ', H', J', q⟩ := hsp; exact ⟨σ', H', J'.ofTry ok, q⟩
    | ret u => obtain ⟨v, σ', H', J', r, q⟩ := hsp; exact ⟨v, σ', H', J'.ofTry ok, r, q⟩
end
end D1

namespace D1
open PySem PySem.Spec L2 Rp PyProof.Rows
/-! ### defs that may raise -/
/-- the context of the body of a def that may raise -/
abbrev RX (P : Program) (w : World) (K : PySem.W.Frag) (mg : Str → Option Value) (base : Heap) (N : List Str) (x : Str) (st : Stmt) (f : Addr) (cdv : Value) (A : Around) (outer : List Env) (s : Shared) (H : Hp) (E : XK) : Cx :=
  cxOf (L2.CX P w) P w K mg base N x (C8.fnScope st) f cdv A outer s H E
structure CalX (P : Program) (w : World) (K : PySem.W.Frag) (mg : Str → Option Value) (base : Heap) (k : Nat) (x : Str) (sp : Sp) : Prop where
  ex : ∃ (f : Addr) (fd : FuncData) (ps : List Str), FnOk P w K mg base (L2.CX P w) k f fd ps sp ∧ mg x = some (.ref f) ∧ PySem.W.keepIn K (.ref f) = true ∧ Binds K fd ps []
structure MetX (P : Program) (w : World) (K : PySem.W.Frag) (mg : Str → Option Value) (base : Heap) (k : Nat) (C : Addr) (m : Str) (sp : Sp) : Prop where
  ex : ∃ (f : Addr) (fd : FuncData) (ps : List Str), Cls K C ∧ Meth K C m f ∧ FnOk P w K mg base (L2.CX P w) k f fd ps sp ∧ Binds K fd ps []
section
variable {P : Program} {w : World} {K : PySem.W.Frag} {mg : Str → Option Value} {base : Heap} {x q : Str} {st : Stmt} {f C : Addr} {fd : FuncData} {N ps : List Str} {k : Nat} {sp sp' : Sp}
theorem rx_takes {cdv : Value} {A : Around} {outer : List Env} {s : Shared} {H : Hp} {E : XK} : Takes (RX P w K mg base N x st f cdv A outer s H E) (fun cls d _ H' => E cls d H') := takes_of rfl rfl rfl rfl
theorem rx_passes {cdv : Value} {A : Around} {outer : List Env} {s : Shared} {H : Hp} {E : XK} : PassesOwn (model P w) (RX P w K mg base N x st f cdv A outer s H E).A (RX P w K mg base N x st f cdv A outer s H E).env (RX P w K mg base N x st f cdv A outer s H E).xe := passes_of rfl
theorem fnX_of (F : C8.Fun K x q st f fd) (S : FnScope N ps (C8.fnScope st)) (hl : ∀ vs H Q E, sp vs H Q E → vs.length = ps.length)
    (body : ∀ (cdv : Value) (A : Around) (outer : List Env) (s : Shared) (H : Hp) (vs : List V) (Q : VK) (E : XK), Room k (RX P w K mg base N q st f cdv A outer s H E).A → sp vs H Q E →
      WS (RX P w K mg base N q st f cdv A outer s H E) (C8.fnBody st) { nx := fun _ H' => Q .non H', rt := Q } (start N vs) H) : FnOk P w K mg base (L2.CX P w) (k + 1) f fd ps sp := by
  obtain ⟨oc, od, dV, kV, doc, pm, an, cdv, ct, osl, rfl, lk, hcd⟩ := F.ex
  exact fn_of lk hcd S hl fun A outer s H vs Q E hr hsp => ⟨_, pss_ws, body cdv A outer s H vs Q E hr hsp⟩
theorem calX_of (D : C8.Def K mg x st f fd) (b : Binds K fd ps []) (S : FnScope N ps (C8.fnScope st)) (hl : ∀ vs H Q E, sp vs H Q E → vs.length = ps.length)
    (body : ∀ (cdv : Value) (A : Around) (outer : List Env) (s : Shared) (H : Hp) (vs : List V) (Q : VK) (E : XK), Room k (RX P w K mg base N x st f cdv A outer s H E).A → sp vs H Q E →
      WS (RX P w K mg base N x st f cdv A outer s H E) (C8.fnBody st) { nx := fun _ H' => Q .non H', rt := Q } (start N vs) H) : CalX P w K mg base (k + 1) x sp :=
  ⟨f, fd, ps, fnX_of D.fn S hl body, D.mgf, D.kp, b⟩
theorem metX_of {m : Str} (c : Cls K C) (me : Meth K C m f) (F : C8.Fun K m q st f fd) (b : Binds K fd ps []) (S : FnScope N ps (C8.fnScope st)) (hl : ∀ vs H Q E, sp vs H Q E → vs.length = ps.length)
    (body : ∀ (cdv : Value) (A : Around) (outer : List Env) (s : Shared) (H : Hp) (vs : List V) (Q : VK) (E : XK), Room k (RX P w K mg base N q st f cdv A outer s H E).A → sp vs H Q E →
      WS (RX P w K mg base N q st f cdv A outer s H E) (C8.fnBody st) { nx := fun _ H' => Q .non H', rt := Q } (start N vs) H) : MetX P w K mg base (k + 1) C m sp :=
  ⟨f, fd, ps, c, me, fnX_of F S hl body, b⟩
/-- where it raises nothing -/
theorem fnOk0 (F : FnOk P w K mg base (L2.CX P w) k f fd ps sp) (h : ∀ vs H Q E, sp' vs H Q E → sp vs H Q fun _ _ _ => False) : FnOk P w K mg base C8.CX0 k f fd ps sp' :=
  ⟨fun vs H Q E q => F.len _ _ _ _ (h _ _ _ _ q), fun A outer s H args us vs Q E hr e0 hb hv q => codeAny_mono (F.run A outer s H args us vs Q (fun _ _ _ => False) hr e0 hb hv (h _ _ _ _ q)) fun r s' hq => by
    cases r with
    | error e =>
      obtain ⟨_, _, _, _, _, _, _, _, _, _, _, _, z⟩ := hq
      exact z.elim
    | ok fl => cases fl <;> exact hq⟩
/-- a def that raises nothing, among those that may -/
theorem fnOkX (F : FnOk P w K mg base C8.CX0 k f fd ps sp) : FnOk P w K mg base (L2.CX P w) k f fd ps sp :=
  ⟨F.len, fun A outer s H args us vs Q E hr e0 hb hv q => codeAny_mono (F.run A outer s H args us vs Q E hr e0 hb hv q) fun r s' hq => by
    cases r with
    | error e => exact hq.elim
    | ok fl => cases fl <;> exact hq⟩
theorem CalX.cal (c : CalX P w K mg base k x sp) (h : ∀ vs H Q E, sp' vs H Q E → sp vs H Q fun _ _ _ => False) : C8.Cal P w K mg base k x sp' [] := by
  obtain ⟨f, fd, ps, F, m, kp, b⟩ := c.ex
  exact ⟨f, fd, ps, [], fnOk0 F h, m, kp, b, .nil⟩
theorem MetX.met {m : Str} (c : MetX P w K mg base k C m sp) (h : ∀ vs H Q E, sp' vs H Q E → sp vs H Q fun _ _ _ => False) : C8.Met P w K mg base k C m sp' [] := by
  obtain ⟨f, fd, ps, cl, me, F, b⟩ := c.ex
  exact ⟨f, fd, ps, [], cl, me, fnOk0 F h, b, .nil⟩
end
section
variable {X : Cx} {x m : Str} {k j : Nat} {a b c e o : Expr} {es : List Expr} {p pos pos2 apos : Pos} {sp : Sp} {W : WX} {σ : L2.St} {H : Hp} {Q : VK} {rest : List Stmt} {D : Ends} {C : Addr}
/-- x(e, ..), x may raise -/
theorem we_cX {t : TA} (cc : CalX X.prog X.w X.K X.mg X.base k x sp) (tk : Takes X W) (hr : Room j X.A) (hk : k ≤ j) (hg : Gl X x) (ha : PA X (e :: es) t) (h : t σ H fun vs H1 => sp vs H1 Q fun cls d H' => W cls d σ H')
    (hdb : (x == ("__debug__" : Str)) = false) (he : starEach (e :: es) X.env = (false, eval e X.env) :: starEach es X.env) (hpl : (backTo pos (starEach es X.env)).any (·.1) = false) : WE X (.Call (.Name x p) (e :: es) [] pos) σ H Q := by
  obtain ⟨f, fd, ps, F, m, kp, b⟩ := cc.ex
  exact WE.of (pe_callS F (hr.mono hk) hg m kp b (fun σ => passAt tk σ) ha hdb he hpl) h
theorem we_callX1 (cc : CalX X.prog X.w X.K X.mg X.base k x sp) (tk : Takes X W) (hr : Room j X.A) (h : WE X a σ H fun v H1 => sp [v] H1 Q fun cls d H' => W cls d σ H') (hk : k ≤ j := by decide) (hg : Gl X x := by rfl)
    (hdb : (x == ("__debug__" : Str)) = false := by decide) (hs : starEach [a] X.env = (false, eval a X.env) :: starEach [] X.env := by rfl) (hpl : (backTo pos (starEach [] X.env)).any (·.1) = false := by rfl) : WE X (.Call (.Name x p) [a] [] pos) σ H Q :=
  we_cX cc tk hr hk hg (pa_cons pe_we pa_nil hs) h hdb hs hpl
theorem we_callX2 (cc : CalX X.prog X.w X.K X.mg X.base k x sp) (tk : Takes X W) (hr : Room j X.A) (h : WE X a σ H fun v H1 => WE X b σ H1 fun u H2 => sp [v, u] H2 Q fun cls d H' => W cls d σ H') (hk : k ≤ j := by decide) (hg : Gl X x := by rfl)
    (hdb : (x == ("__debug__" : Str)) = false := by decide) (hs : starEach [a, b] X.env = (false, eval a X.env) :: starEach [b] X.env := by rfl) (hs2 : starEach [b] X.env = (false, eval b X.env) :: starEach [] X.env := by rfl) (hpl : (backTo pos (starEach [b] X.env)).any (·.1) = false := by rfl) : WE X (.Call (.Name x p) [a, b] [] pos) σ H Q :=
  we_cX cc tk hr hk hg (pa_cons pe_we (pa_cons pe_we pa_nil hs2) hs) h hdb hs hpl
theorem we_callX3 (cc : CalX X.prog X.w X.K X.mg X.base k x sp) (tk : Takes X W) (hr : Room j X.A) (h : WE X a σ H fun v H1 => WE X b σ H1 fun u H2 => WE X c σ H2 fun w H3 => sp [v, u, w] H3 Q fun cls d H' => W cls d σ H') (hk : k ≤ j := by decide) (hg : Gl X x := by rfl)
    (hdb : (x == ("__debug__" : Str)) = false := by decide) (hs : starEach [a, b, c] X.env = (false, eval a X.env) :: starEach [b, c] X.env := by rfl) (hs2 : starEach [b, c] X.env = (false, eval b X.env) :: starEach [c] X.env := by rfl) (hs3 : starEach [c] X.env = (false, eval c X.env) :: starEach [] X.env := by rfl) (hpl : (backTo pos (starEach [b, c] X.env)).any (·.1) = false := by rfl) : WE X (.Call (.Name x p) [a, b, c] [] pos) σ H Q :=
  we_cX cc tk hr hk hg (pa_cons pe_we (pa_cons pe_we (pa_cons pe_we pa_nil hs3) hs2) hs) h hdb hs hpl
/-- o.m(e, ..), m may raise -/
theorem we_mX {pl : Sem Bool} {t : TA} (cc : MetX X.prog X.w X.K X.mg X.base k C m sp) (tk : Takes X W) (hr : Room j X.A) (hk : k ≤ j) (ha : PA X (e :: es) t)
    (h : WE X o σ H fun v H1 => ∃ a dx fs, v = .ref a ∧ H1 a = some (.ins C dx fs) ∧ fs.lookup m = none ∧ t σ H1 fun vs H2 => sp (v :: vs) H2 Q fun cls d H' => W cls d σ H')
    (hst : starEach (e :: es) X.env = (false, eval e X.env) :: starEach es X.env) (hpl : (backTo pos (starEach es X.env)).any (·.1) = false)
    (ht : eval (.Call (.Attribute o m apos) (e :: es) [] pos) X.env = (do
      let ov ← eval o X.env
      standAt apos.atName
      let (f, first) ← holding [ov] (getMethod ov m pl)
      callWith pos f first (backTo pos (starEach (e :: es) X.env)) (backToKw pos (keywordEach [] X.env)))) : WE X (.Call (.Attribute o m apos) (e :: es) [] pos) σ H Q := by
  obtain ⟨f, fd, ps, cl, me, F, bd⟩ := cc.ex
  intro pins s I
  refine PySem.W.methodCall_KW (pl := pl) (thn (h pins s I) fun u s1 ⟨y, H1, I1, ry, a, dx, fs, ey, ea, l, q⟩ => ?_) ht
  subst ey
  obtain rfl : u = Value.ref a := ry
  refine getmeth_ok I1 ea cl me l ?_
  refine PySem.W.callWith_K (first := [.ref a]) (h₀ := X.base) I.ok.mod.kin me.kp (thn (ha.run pos pins s1 σ H1 _ I1 q) fun us s2 ⟨vs, H2, I2, r, q2⟩ => ⟨I2.kIn, ?_⟩) hst hpl
  exact run_fnS (us := .ref a :: us) (vs := .ref a :: vs) F (hr.mono hk) bd (passAt tk σ) I2 (.cons rfl r) q2
theorem we_mX0 {pl : Sem Bool} (cc : MetX X.prog X.w X.K X.mg X.base k C m sp) (tk : Takes X W) (hr : Room j X.A)
    (h : WE X o σ H fun v H1 => ∃ a dx fs, v = .ref a ∧ H1 a = some (.ins C dx fs) ∧ fs.lookup m = none ∧ sp [v] H1 Q fun cls d H' => W cls d σ H') (hk : k ≤ j := by decide)
    (ht : eval (.Call (.Attribute o m apos) [] [] pos) X.env = (do
      let ov ← eval o X.env
      standAt apos.atName
      let (f, first) ← holding [ov] (getMethod ov m pl)
      callWith pos f first (backTo pos (starEach [] X.env)) (backToKw pos (keywordEach [] X.env))) := by rfl) : WE X (.Call (.Attribute o m apos) [] [] pos) σ H Q := by
  obtain ⟨f, fd, ps, cl, me, F, bd⟩ := cc.ex
  intro pins s I
  refine PySem.W.methodCall_KW (pl := pl) (thn (h pins s I) fun u s1 ⟨y, H1, I1, ry, a, dx, fs, ey, ea, l, q⟩ => ?_) ht
  subst ey
  obtain rfl : u = Value.ref a := ry
  refine getmeth_ok I1 ea cl me l ?_
  exact PySem.W.callWith_K0 (first := [.ref a]) I1.kIn me.kp (run_fnS (us := [.ref a]) (vs := [.ref a]) F (hr.mono hk) bd (passAt tk σ) I1 (.cons rfl .nil) q)
theorem we_mX1 {pl : Sem Bool} (cc : MetX X.prog X.w X.K X.mg X.base k C m sp) (tk : Takes X W) (hr : Room j X.A)
    (h : WE X o σ H fun v H1 => ∃ a dx fs, v = .ref a ∧ H1 a = some (.ins C dx fs) ∧ fs.lookup m = none ∧ WE X e σ H1 fun u H2 => sp [v, u] H2 Q fun cls d H' => W cls d σ H') (hk : k ≤ j := by decide)
    (hst : starEach [e] X.env = (false, eval e X.env) :: starEach [] X.env := by rfl) (hpl : (backTo pos (starEach [] X.env)).any (·.1) = false := by rfl)
    (ht : eval (.Call (.Attribute o m apos) [e] [] pos) X.env = (do
      let ov ← eval o X.env
      standAt apos.atName
      let (f, first) ← holding [ov] (getMethod ov m pl)
      callWith pos f first (backTo pos (starEach [e] X.env)) (backToKw pos (keywordEach [] X.env))) := by rfl) : WE X (.Call (.Attribute o m apos) [e] [] pos) σ H Q :=
  we_mX (pl := pl) cc tk hr hk (pa_cons pe_we pa_nil hst) h hst hpl ht
theorem we_mX2 {pl : Sem Bool} (cc : MetX X.prog X.w X.K X.mg X.base k C m sp) (tk : Takes X W) (hr : Room j X.A)
    (h : WE X o σ H fun v H1 => ∃ a dx fs, v = .ref a ∧ H1 a = some (.ins C dx fs) ∧ fs.lookup m = none ∧ WE X e σ H1 fun u H2 => WE X b σ H2 fun z H3 => sp [v, u, z] H3 Q fun cls d H' => W cls d σ H') (hk : k ≤ j := by decide)
    (hst : starEach [e, b] X.env = (false, eval e X.env) :: starEach [b] X.env := by rfl) (hst2 : starEach [b] X.env = (false, eval b X.env) :: starEach [] X.env := by rfl) (hpl : (backTo pos (starEach [b] X.env)).any (·.1) = false := by rfl)
    (ht : eval (.Call (.Attribute o m apos) [e, b] [] pos) X.env = (do
      let ov ← eval o X.env
      standAt apos.atName
      let (f, first) ← holding [ov] (getMethod ov m pl)
      callWith pos f first (backTo pos (starEach [e, b] X.env)) (backToKw pos (keywordEach [] X.env))) := by rfl) : WE X (.Call (.Attribute o m apos) [e, b] [] pos) σ H Q :=
  we_mX (pl := pl) cc tk hr hk (pa_cons pe_we (pa_cons pe_we pa_nil hst2) hst) h hst hpl ht
/-! ### raise x(e) -/
/-- an error class of the module -/
structure ErrM (P : Program) (w : World) (K : PySem.W.Frag) (mg : Str → Option Value) (base : Heap) (x : Str) (C : Addr) : Prop where
  T : ErrF K C
  mgC : mg x = some (.ref C)
  ex : ∃ fI fd, PySem.W.findIn K (.ref C) "__init__" = some (some (.ref fI)) ∧ PySem.W.typeIn K (.ref fI) = some (.type "function") ∧ FnOk P w K mg base C8.CX0 1 fI fd ["self", "value"] (PErr C) ∧ Binds K fd ["self", "value"] []
/-- what an error's dict holds -/
abbrev xdV (v : V) : HO := .xd [("value", v)]
theorem err_heap {H : Hp} {a dx C : Addr} {v : V} (ha : H a = none) (hd : dx ≠ a) : upd (del (upd (upd (upd H a (exo a C none)) dx (exd dx [("value", v)])) a (exo a C (some dx))) a) dx (xdV v) = upd H dx (xdV v) := by
  funext b
  by_cases h1 : b = dx
  · subst h1; rw [upd_same, upd_same]
  · rw [upd_ne h1, upd_ne h1]
    by_cases h2 : b = a
    · subst h2; rw [del_same, ha]
    · rw [del_ne h2, upd_ne h2, upd_ne h1, upd_ne h2]
theorem ws_err (M : ErrM X.prog X.w X.K X.mg X.base x C) (tk : Takes X W) (hr : Room j X.A) (h : WE X e σ H fun v H1 => ∀ dx, H1 dx = none → W (.ref C) (some dx) σ (upd H1 dx (xdV v))) (hj : 2 ≤ j := by decide) (hc : X.calm = true := by rfl) (hg : Gl X x := by rfl)
    (hdb : (x == ("__debug__" : Str)) = false := by decide) (he : starEach [e] X.env = (false, eval e X.env) :: starEach [] X.env := by rfl) (hpl : (backTo pos (starEach [] X.env)).any (·.1) = false := by rfl) :
    WS X (.Raise (some (.Call (.Name x p) [e] [] pos)) none pos2 :: rest) D σ H := by
  obtain ⟨fI, fd, iC, tI, F, bd⟩ := M.ex
  refine WS.cons (ps_raise hc tk (pmk_oex (CX := C8.CX0) M.T.oex iC tI F (hr.mono hj) bd .nil C8.pass0 hg M.mgC (pa_cons pe_we pa_nil he) hdb he hpl)) ?_
  refine WE.mono h fun v H1 q => ⟨by show 1 ≤ 1000; decide, fun a ha => ⟨a, v, rfl, upd_same, fun dx hdx hne => ⟨rfl, dx, [("value", v)], upd_same, ?_, ?_, ?_⟩⟩⟩
  · rw [upd_ne hne, upd_same]
  · rw [upd_ne hne] at hdx; exact hdx
  · rw [err_heap ha hne]
    rw [upd_ne hne] at hdx
    exact q dx hdx
end
/-! ### isinstance and fields of errors that are kept -/
/-- what K says of the class of such an error -/
structure ErrK (K : PySem.W.Frag) (C : Addr) : Prop where
  ga : PySem.W.findIn K (.ref C) "__getattribute__" = some (some (.builtin "BaseException.__getattribute__"))
  gg : PySem.W.findIn K (.ref C) "__getattr__" = some none
  exC : PySem.W.subIn K (.ref C) (.type "BaseException") = some true
  hd : PySem.W.hasDictIn K C = true
  ha : PySem.W.findIn K (.ref C) "__class__" = some (some (.builtin "object.__class__"))
  hn : PySem.W.specialIn K (.builtin "object.__class__") "__get__" = some (some (.builtin "getset_descriptor.__get__"))
  ht : PySem.W.takesIn K (.builtin "object.__class__") = some true
  hm : PySem.W.mroIn K C (.type "object") = some true
/-- an error's dict, where it has one -/
def DictOk (d : Option Addr) (H : Hp) : Prop := ∀ dd, d = some dd → ∃ fs, H dd = some (.xd fs)
section
variable {X : Cx} {pins : List (Addr × Obj)} {σ : L2.St} {H : Hp} {s : Shared} {a C : Addr} {d : Option Addr}
theorem inst_exg (I : Inv X pins σ H s) (e : H a = some (exg a C d)) (dk : DictOk d H) : ∃ oe od, PySem.W.InstAt s.heap a oe C od ∧ s.heap.get? a = some oe ∧ ∀ dd fs, d = some dd → H dd = some (.xd fs) → ∃ (mA : Str → Option Value) (o : Obj), od = some o ∧ (∀ f, RelO (fs.lookup f) (mA f)) ∧ ∀ name, PySem.W.lookIn name o = some (mA name) := by
  obtain ⟨oe, vs, ho, ⟨z1, z2⟩, hv⟩ := exg_at I.hok e
  have nc : PySem.W.notCls oe = true := by unfold PySem.W.notCls; rw [hv]
  cases d with
  | none => exact ⟨oe, none, ⟨ho, z1, nc, by rw [z2]; trivial⟩, ho, fun dd fs e => nomatch e⟩
  | some dd =>
    obtain ⟨fs, hfs⟩ := dk dd rfl
    have hx : ObjOk X.prog X.w H s.heap dd (.xd fs) := I.hok dd _ hfs
    obtain ⟨mA, hns, hr⟩ := hx
    obtain ⟨od, hod, hl⟩ := lookIn_ns hns
    refine ⟨oe, some od, ⟨ho, z1, nc, by rw [z2]; exact hod⟩, ho, fun dd' fs' e1 e2 => ?_⟩
    cases e1
    rw [hfs] at e2
    cases e2
    exact ⟨mA, od, rfl, hr, hl⟩
def rIsX (K : PySem.W.Frag) : List V → Hp → VK → Prop := fun xs H Q => ∃ (a C D : Addr) (d : Option Addr) (b : Bool), xs = [.ref a, .ref D] ∧ H a = some (exg a C d) ∧ DictOk d H ∧ ErrK K C ∧ PySem.W.kitOne K (.ref C) (.ref D) = some b ∧ Q (.bl b) H
theorem cr_isX : CallR X (.builtin "isinstance") (rIsX X.K) := by
  intro pins s σ H xs us Q I r ⟨a, C, D, d, b, ex, ea, dk, T, e, q⟩
  subst ex
  cases r with
  | cons rx rr =>
    cases rr with
    | cons rt rr =>
      cases rr
      cases rx
      cases rt
      obtain ⟨oe, od, J, ho, _⟩ := inst_exg I ea dk
      have hcl : (PySem.W.clsIn X.K C).isSome = true := by
        obtain ⟨cd, hc, _⟩ := PySem.W.any_some T.hd
        rw [hc]; rfl
      exact PySem.W.kia_one (PySem.W.kitx_exc hcl T.ga T.gg T.exC T.ha T.hn T.ht T.hm) I.kIn J e (fun z => nomatch z) fun tk => ⟨.bl b, H, I.kept (t' := tk) fun _ _ z => z, rfl, q⟩
/-- e.n of such an error -/
theorem we_exf {e : Expr} {n : Str} {pos : Pos} {Q : VK} (h : WE X e σ H fun x H1 => ∃ a C dd fs v, x = .ref a ∧ H1 a = some (exg a C (some dd)) ∧ H1 dd = some (.xd fs) ∧ ErrK X.K C ∧ PySem.W.findIn X.K (.ref C) n = some none ∧ fs.lookup n = some v ∧ Q v H1)
    (hb : attributeBase e n X.env (eval e X.env) = eval e X.env := by rfl) : WE X (.Attribute e n pos) σ H Q := by
  intro pins s I
  refine attr_of hb (thn (h pins s I) fun u s1 ⟨x, H1, I1, rx, a, C, dd, fs, v, ex, ea, ed, T, hno, l, q⟩ => ?_)
  subst ex
  obtain rfl : u = Value.ref a := rx
  obtain ⟨oe, od, J, ho, hk⟩ := inst_exg I1 ea (fun dd' e' => by cases e'; exact ⟨fs, ed⟩)
  obtain ⟨mA, od', rfl, hr, hl⟩ := hk dd fs rfl ed
  obtain ⟨u, hu, ru⟩ := RelO.some_of (v := v) (o := mA n) (by rw [← l]; exact hr n)
  exact HandSPX.exc_get I1.kIn J T.ga T.gg T.exC (PySem.W.findObj_own T.hd hno rfl (by rw [hl, hu])) (handed_of ru) ⟨v, H1, I1.tok _, ru, q⟩
theorem we_isX {e : Expr} {x : Str} {p q pos : Pos} {D : Addr} {Q : VK} (B : Bt X.mg) (hm : X.mg x = some (.ref D)) (h : WE X e σ H fun y H1 => ∃ (a C : Addr) (d : Option Addr) (b : Bool), y = .ref a ∧ H1 a = some (exg a C d) ∧ DictOk d H1 ∧ ErrK X.K C ∧ PySem.W.kitOne X.K (.ref C) (.ref D) = some b ∧ Q (.bl b) H1)
    (hg : Gl X "isinstance" := by rfl) (hgx : Gl X x := by rfl) (hdb : (x == ("__debug__" : Str)) = false := by decide)
    (hs : starEach [e, .Name x q] X.env = (false, eval e X.env) :: starEach [.Name x q] X.env := by rfl) (hs2 : starEach [.Name x q] X.env = (false, eval (.Name x q) X.env) :: starEach [] X.env := by rfl) (hpl : (backTo pos (starEach [.Name x q] X.env)).any (·.1) = false := by rfl) :
    WE X (.Call (.Name "isinstance" p) [e, .Name x q] [] pos) σ H Q :=
  WE.of (pe_callB cr_isX hg B.isinstance boot_isinstance' (pa_cons pe_we (pa_cons (pe_glob (v := .ref D) hgx hm rfl hdb) pa_nil hs2) hs) (by decide) (by decide) hs hpl) (WE.mono h fun y H1 ⟨a, C, d, b, e1, e2, e3, e4, e5, q⟩ => ⟨a, C, D, d, b, by rw [e1], e2, e3, e4, e5, q⟩)
end
end D1

namespace D1
open PySem L2 Rp Da
section
variable {α β γ δ : Type} [Rp α] [Rp β] [Rp γ] [Rp δ] {X : Cx} {a b c e i o value : Expr} {σ : L2.St} {G : Hp} {pos p p2 pos' apos cpos : Pos} {rest : List Stmt} {D : Ends} {H : Hp} {Q : VK}
/-! ### dicts that are built and changed -/
theorem ws_dput (hu : X.A.units + 1 < cLine) (h : WE X value σ H fun v H1 => WE X o σ H1 fun x H2 => WE X i σ H2 fun y H3 => ∃ q kvs z, x = .ref q ∧ y = .str z ∧ H3 q = some (.dK kvs) ∧ kvs.length < sizeLine ∧ WS X rest D σ (upd H3 q (.dK (putK kvs (Sum.inr z) v))))
    (hs : swapsWith value (some (.Subscript o i pos')) pos.line X.env = pure false := by rfl) : WS X (.Assign [.Subscript o i pos'] value pos :: rest) D σ H :=
  WS.cons (ps_dput hu pe_we pe_we pe_we hs) (WE.mono h fun v H1 h1 => WE.mono h1 fun x H2 h2 => WE.mono h2 fun y H3 ⟨q, kvs, z, e1, e2, e3, e4, k⟩ => ⟨q, _, e1, by rw [e2]; exact DPut.k (k := Sum.inr z) e3 e4, k⟩)
/-- x = {}, kept apart from what stands -/
theorem we_dict00 (k : ∀ q, H q = none → Q (.ref q) (upd H q (.dK []))) : WE X (.Dict [] [] pos) σ H Q := WE.of pe_dnewK fun q hq => k q hq
theorem putK_new {κ : Type} [DecidableEq κ] {kvs : List (κ × V)} {k : κ} {v : V} (h : k ∉ kvs.map (·.1)) : putK kvs k v = kvs ++ [(k, v)] := by
  unfold putK
  rw [if_neg]
  intro e
  obtain ⟨x, hx, e2⟩ := List.any_eq_true.mp e
  exact h (List.mem_map.mpr ⟨x, hx, of_decide_eq_true e2⟩)
theorem kvr_fresh {G : Hp} {kvs : List (Key × V)} {l : List (Str × β)} {z : Str} (h : Paired (KvR G) kvs l) (hz : z ∉ l.map (·.1)) : (Sum.inr z : Key) ∉ kvs.map (·.1) := by
  rw [kvr_keys h]
  intro e
  obtain ⟨x, hx, e2⟩ := List.mem_map.mp e
  exact hz (by rw [← Sum.inr.inj e2]; exact hx)
theorem kvr_snoc {G : Hp} : ∀ {kvs : List (Key × V)} {l : List (Str × β)} {z : Str} {v : V} {d : β}, Paired (KvR G) kvs l → rp G v d → Paired (KvR G) (kvs ++ [(Sum.inr z, v)]) (l ++ [(z, d)])
  | _, _, _, _, _, .nil, r => .cons ⟨rfl, r⟩ .nil
  | _, _, _, _, _, .cons h t, r => .cons h (kvr_snoc t r)
/-! ### list(d.items()) -/
theorem items_pair {G' : Hp} {β : Type} [Rp β] : ∀ {ts : List Addr} {kvs : List (Key × V)} {l : List (Str × β)}, Paired (fun (t : Addr) (q : Key × V) => G' t = some (.tup [kV q.1, q.2])) ts kvs → Paired (KvR G') kvs l → Paired (rp G') (ts.map V.ref) l
  | _, _, _, .nil, .nil => .nil
  | _, _, _, .cons h t, .cons r u => by
    refine .cons ?_ (items_pair t u)
    obtain ⟨r1, r2⟩ := r
    rename_i tt q _ kv _ _
    refine ⟨tt, kV q.1, q.2, rfl, h, ?_, r2⟩
    rw [r1]; rfl
theorem grow_all {G H H' : Hp} (s : Same G H) (k : ∀ b o, H b = some o → H' b = some o) : Gr G H (fun b => if H b = none then H' b else G b) H' := by
  refine ⟨fun b o e => ?_, fun b o _ e => k b o e, fun b o e => ?_, fun b n hb => ?_, fun b hb e => ?_⟩
  · have := s b o e
    show (if H b = none then H' b else G b) = some o
    rw [if_neg (by rw [this]; exact fun z => nomatch z)]; exact e
  · have e' : (if H b = none then H' b else G b) = some o := e
    by_cases hb : H b = none
    · rw [if_pos hb] at e'; exact e'
    · rw [if_neg hb] at e'; exact k b o (s b o e')
  · show (if H b = none then H' b else G b) = none
    rw [if_neg hb]; exact n
  · obtain ⟨o, ho⟩ := Option.ne_none_iff_exists'.mp hb
    rw [k b o ho] at e
    cases e
theorem Ev.items {d : DctS β} (B : Bt X.mg) (h : Ev X e σ G d) (hc : X.calm = true := by rfl) (hg : Gl X "list" := by rfl) (hbase : attributeBase e "items" X.env (eval e X.env) = eval e X.env := by rfl) (hline : (apos.endLine == cpos.line) = true := by rfl)
    (hs : starEach [.Call (.Attribute e "items" apos) [] [] cpos] X.env = (false, eval (.Call (.Attribute e "items" apos) [] [] cpos) X.env) :: starEach [] X.env := by rfl) :
    Ev X (.Call (.Name "list" p) [.Call (.Attribute e "items" apos) [] [] cpos] [] pos) σ G d.kvs := fun G1 H1 Q s1 s2 k =>
  WE.of (LiI.pe_listItems hc pe_we hg B.list boot_list' hbase hline hs) (h G1 H1 _ s1 s2 fun G2 H2 v g r => by
    obtain ⟨q, kvs, rfl, h1, pr⟩ := r
    refine ⟨q, kvs, rfl, g.s _ _ h1, fun H' p' ts hk hp hts hn hl pts => ?_⟩
    have gg := grow_all g.s hk
    have at_ : ∀ b, H2 b = none → ∀ o, H' b = some o → (fun b => if H2 b = none then H' b else G2 b) b = some o := fun b hb o ho => by
      show (if H2 b = none then H' b else G2 b) = some o
      rw [if_pos hb]; exact ho
    refine k _ _ _ (g.trans gg) ⟨p', _, rfl, at_ _ hp _ hl, items_pair (kvs := kvs) ?_ (pmono pr fun _ _ r => ⟨r.1, rup gg.g r.2⟩)⟩
    have key : ∀ {ts : List Addr} {kvs : List (Key × V)}, (∀ t ∈ ts, H2 t = none) → Paired (fun (t : Addr) (q : Key × V) => H' t = some (.tup [kV q.1, q.2])) ts kvs → Paired (fun (t : Addr) (q : Key × V) => (fun b => if H2 b = none then H' b else G2 b) t = some (.tup [kV q.1, q.2])) ts kvs := by
      intro ts kvs hts h
      induction h with
      | nil => exact .nil
      | cons r t ih => exact .cons (at_ _ (hts _ List.mem_cons_self) _ r) (ih fun t ht => hts t (List.mem_cons_of_mem _ ht))
    exact key hts pts)
/-! ### dicts of texts compared, equal ones -/
theorem same_kvs {G G' : Hp} : ∀ {kvs kvs' : List (Key × V)} {l : List (Str × Str)}, Paired (KvR G) kvs l → Paired (KvR G') kvs' l → kvs = kvs' ∧ ∀ p ∈ kvs, flatB p.2 = true
  | _, _, _, .nil, .nil => ⟨rfl, fun p hp => by cases hp⟩
  | kv :: _, kv' :: _, zd :: _, .cons r t, .cons r' t' => by
    obtain ⟨e, f⟩ := same_kvs t t'
    have e1 : kv.2 = V.str zd.2 := r.2
    have e2 : kv'.2 = V.str zd.2 := r'.2
    have e3 : kv = kv' := Prod.ext (r.1.trans r'.1.symm) (e1.trans e2.symm)
    refine ⟨by rw [e3, e], fun p hp => ?_⟩
    rcases List.mem_cons.mp hp with h | h
    · rw [h, e1]; rfl
    · exact f p h
theorem ndKeys {G : Hp} {kvs : List (Key × V)} {l : List (Str × β)} (h : Paired (KvR G) kvs l) (hn : (l.map (·.1)).Nodup) : (kvs.map (·.1)).Nodup := by
  rw [kvr_keys h]
  exact List.Pairwise.map (S := fun a b => a ≠ b) Sum.inr (fun a b (h : a ≠ b) e => h (Sum.inr.inj e)) hn
theorem ET.neDct {d : DctS Str} (hu : X.A.units + 1 < cLine) (ha : Ev X a σ G d) (hb : Ev X b σ G d) (hn : (d.kvs.map (·.1)).Nodup) : ET X (.Compare a [.NotEq] [b] pos) σ G false :=
  ET.cmp (op_ne_dictA (by omega)) (nobehind _ (by decide) (by decide)) (fun G1 H1 u v Q s r1 r2 k => by
    obtain ⟨q, kvs, rfl, h1, p1⟩ := r1
    obtain ⟨q', kvs', rfl, h2, p2⟩ := r2
    obtain ⟨e, f⟩ := same_kvs p1 p2
    subst e
    exact ⟨q, q', kvs, kvs, rfl, rfl, s _ _ h1, s _ _ h2, rfl, fun x hx => ⟨val_nodup (ndKeys p1 hn) x hx, f x hx⟩, k _ _ _ (GrM.refl s) rfl⟩) ha hb
theorem Ev.eqDct {d : DctS Str} (hu : X.A.units + 1 < cLine) (ha : Ev X a σ G d) (hb : Ev X b σ G d) (hn : (d.kvs.map (·.1)).Nodup) : Ev X (.Compare a [.Eq] [b] pos) σ G true :=
  Ev.cmp (op_eq_dictA (by omega)) (nobehind _ (by decide) (by decide)) (fun G1 H1 u v Q s r1 r2 k => by
    obtain ⟨q, kvs, rfl, h1, p1⟩ := r1
    obtain ⟨q', kvs', rfl, h2, p2⟩ := r2
    obtain ⟨e, f⟩ := same_kvs p1 p2
    subst e
    exact ⟨q, q', kvs, kvs, rfl, rfl, s _ _ h1, s _ _ h2, rfl, fun x hx => ⟨val_nodup (ndKeys p1 hn) x hx, f x hx⟩, k _ _ _ (GrM.refl s) rfl⟩) ha hb
/-! ### a and b and .., where tests may change things -/
theorem wt_and {rest : List Expr} {Q : Bool → Hp → Prop} (h : WT X a σ H fun y H1 => if y = true then WW X (.BoolOp .And (b :: rest) pos) σ H1 Q else Q false H1) : WT X (.BoolOp .And (a :: b :: rest) pos) σ H Q := fun pins s I => WW.of (pw_and pt_wt pw_ww) h _ pins s I
theorem ww_and {rest : List Expr} {Q : Bool → Hp → Prop} (h : WT X a σ H fun y H1 => if y = true then WW X (.BoolOp .And (b :: rest) pos) σ H1 Q else Q false H1) : WW X (.BoolOp .And (a :: b :: rest) pos) σ H Q := WW.of (pw_and pt_wt pw_ww) h
theorem ww_and1 {Q : Bool → Hp → Prop} (h : WT X a σ H Q) : WW X (.BoolOp .And [a] pos) σ H Q := WW.of (pw_and1 pt_wt) h
end
end D1

namespace D1
open PySem L2 Rp Da
/-- an error that was caught, with what it was made of -/
structure Er (α : Type) where
  C : Addr
  val : α
instance {α : Type} [Rp α] : Rp (Er α) := ⟨fun H v x => ∃ a dd u, v = .ref a ∧ H a = some (exg a x.C (some dd)) ∧ H dd = some (xdV u) ∧ rp H u x.val, fun s ⟨a, dd, u, e, h1, h2, r⟩ => ⟨a, dd, u, e, s _ _ h1, s _ _ h2, rup s r⟩⟩
instance {α : Type} [Rp α] : Nn1 (Er α) := ⟨fun ⟨a, _, _, e, _⟩ h => by subst e; cases h⟩
section
variable {α β γ δ : Type} [Rp α] [Rp β] [Rp γ] [Rp δ] {X : Cx} {a b c e i o value : Expr} {σ : L2.St} {G : Hp} {pos p q p2 pos' apos cpos : Pos} {rest : List Stmt} {D : Ends} {H : Hp} {Q : VK}
theorem Ev.isX {d : Er α} {x : Str} {z : Bool} {DC : Addr} (B : Bt X.mg) (T : ErrK X.K d.C) (hm : X.mg x = some (.ref DC)) (hk : PySem.W.kitOne X.K (.ref d.C) (.ref DC) = some z) (h : Ev X e σ G d)
    (hg : Gl X "isinstance" := by rfl) (hgx : Gl X x := by rfl) (hdb : (x == ("__debug__" : Str)) = false := by decide)
    (hs : starEach [e, .Name x q] X.env = (false, eval e X.env) :: starEach [.Name x q] X.env := by rfl) (hs2 : starEach [.Name x q] X.env = (false, eval (.Name x q) X.env) :: starEach [] X.env := by rfl) (hpl : (backTo pos (starEach [.Name x q] X.env)).any (·.1) = false := by rfl) :
    Ev X (.Call (.Name "isinstance" p) [e, .Name x q] [] pos) σ G z := fun G1 H1 Q s1 s2 k =>
  we_isX B hm (h G1 H1 _ s1 s2 fun G2 H2 v g r => by
    obtain ⟨a, dd, u, rfl, h1, h2, _⟩ := r
    exact ⟨a, d.C, some dd, z, rfl, g.s _ _ h1, fun dd' e' => by cases e'; exact ⟨_, g.s _ _ h2⟩, T, hk, k _ _ _ g rfl⟩) hg hgx hdb hs hs2 hpl
theorem Ev.exv {d : Er α} (T : ErrK X.K d.C) (hno : PySem.W.findIn X.K (.ref d.C) "value" = some none) (h : Ev X e σ G d) (hb : attributeBase e "value" X.env (eval e X.env) = eval e X.env := by rfl) : Ev X (.Attribute e "value" pos) σ G d.val := fun G1 H1 Q s1 s2 k =>
  we_exf (h G1 H1 _ s1 s2 fun G2 H2 v g r => by
    obtain ⟨a, dd, u, rfl, h1, h2, r2⟩ := r
    exact ⟨a, d.C, dd, _, u, rfl, g.s _ _ h1, g.s _ _ h2, T, hno, by simp [List.lookup], k _ _ _ g r2⟩) hb
/-- what is caught stands from now on -/
theorem er_made {C dx a : Addr} {v : V} {d : α} (hdx : H dx = some (xdV v)) (ha : H a = none) (s : Same G H) (r : rp G v d) (gd : G dx = none) :
    ∃ G', Same G G' ∧ Same G' (upd H a (exg a C (some dx))) ∧ rp G' (.ref a) (⟨C, d⟩ : Er α) ∧ (∀ b, G b = none → b ≠ dx → b ≠ a → G' b = none) ∧ (∀ b o, G' b = some o → G b = some o ∨ b = dx ∨ b = a) := by
  have ga : G a = none := s.free ha
  have hne : dx ≠ a := ne_of_none hdx ha
  have s1 : Same G (upd G dx (xdV v)) := same_new gd
  have s2 : Same (upd G dx (xdV v)) (upd (upd G dx (xdV v)) a (exg a C (some dx))) := same_new (by rw [upd_ne hne.symm]; exact ga)
  refine ⟨upd (upd G dx (xdV v)) a (exg a C (some dx)), s1.trans s2, fun b o e => ?_, ⟨a, dx, v, rfl, upd_same, by rw [upd_ne hne, upd_same], rup (s1.trans s2) r⟩, fun b n1 n2 n3 => by rw [upd_ne n3, upd_ne n2]; exact n1, fun b o e => ?_⟩
  · by_cases h1 : b = a
    · subst h1; rw [upd_same] at e ⊢; exact e
    · rw [upd_ne h1] at e ⊢
      by_cases h2 : b = dx
      · subst h2; rw [upd_same] at e; rw [← e]; exact hdx
      · rw [upd_ne h2] at e; exact s b o e
  · by_cases h1 : b = a
    · exact .inr (.inr h1)
    · by_cases h2 : b = dx
      · exact .inr (.inl h2)
      · rw [upd_ne h1, upd_ne h2] at e; exact .inl e
theorem we_ifW (h : WT X c σ H fun z H1 => if z = true then WE X a σ H1 Q else WE X b σ H1 Q) : WE X (.IfExp c a b pos) σ H Q := WE.of (pe_ifExp pt_wt pe_we pe_we) h
theorem we_lst2 (h : WE X a σ H fun u H1 => WE X b σ H1 fun v H2 => ∀ q, H2 q = none → Q (.ref q) (upd H2 q (.lst [u, v]))) (hs : starEach [a, b] X.env = (false, eval a X.env) :: starEach [b] X.env := by rfl) (hs2 : starEach [b] X.env = (false, eval b X.env) :: starEach [] X.env := by rfl) : WE X (.List [a, b] pos) σ H Q :=
  WE.of (pe_lst (pa_cons pe_we (pa_cons pe_we pa_nil hs2) hs)) (WE.mono h fun u H1 h1 => WE.mono h1 fun v H2 h2 => ⟨small_sz (n := 2), h2⟩)
end
end D1

namespace T82
open PySem L2 D1 Rp
/-! the text by places -/
def top (i : Nat) : Stmt := PySem.Challenge.pw_panelfairs_k82_whole_verdicts.main.body.getD i (.Pass ⟨0, 0, 0, 0⟩)
-- top 1: __name__ = 'panelfairs.errors'
-- top 10: __name__ = 'panelfairs.doors'
-- top 11: LETTERS = 'abcdefghijklmnopqrstuvwxyz'
abbrev sIsName : Stmt := top 12
abbrev nIsName : List Str := ["value", "sign"]
theorem scIsName : FnScope nIsName ["value"] (C8.fnScope sIsName) := C8.fnScope_by (by decide +kernel)
abbrev sAreNames : Stmt := top 13
abbrev nAreNames : List Str := ["value", "name"]
theorem scAreNames : FnScope nAreNames ["value"] (C8.fnScope sAreNames) := C8.fnScope_by (by decide +kernel)
abbrev sAreEntries : Stmt := top 14
abbrev nAreEntries : List Str := ["value"]
theorem scAreEntries : FnScope nAreEntries ["value"] (C8.fnScope sAreEntries) := C8.fnScope_by (by decide +kernel)
abbrev sIsAscending : Stmt := top 15
abbrev nIsAscending : List Str := ["value"]
theorem scIsAscending : FnScope nIsAscending ["value"] (C8.fnScope sIsAscending) := C8.fnScope_by (by decide +kernel)
abbrev sIsLot : Stmt := top 16
abbrev nIsLot : List Str := ["value", "entries", "name"]
theorem scIsLot : FnScope nIsLot ["value", "entries"] (C8.fnScope sIsLot) := C8.fnScope_by (by decide +kernel)
abbrev sIsField : Stmt := top 17
abbrev nIsField : List Str := ["value", "entries"]
theorem scIsField : FnScope nIsField ["value", "entries"] (C8.fnScope sIsField) := C8.fnScope_by (by decide +kernel)
abbrev sCheckEntries : Stmt := top 18
abbrev nCheckEntries : List Str := ["value"]
theorem scCheckEntries : FnScope nCheckEntries ["value"] (C8.fnScope sCheckEntries) := C8.fnScope_by (by decide +kernel)
abbrev sCheckField : Stmt := top 19
abbrev nCheckField : List Str := ["value", "entries"]
theorem scCheckField : FnScope nCheckField ["value", "entries"] (C8.fnScope sCheckField) := C8.fnScope_by (by decide +kernel)
-- top 20: __name__ = 'panelfairs.panels'
abbrev sPanelInit : Stmt := inClass (top 21) 0
abbrev nPanelInit : List Str := ["self", "entries", "rows", "row"]
theorem scPanelInit : FnScope nPanelInit ["self", "entries", "rows"] (C8.fnScope sPanelInit) := C8.fnScope_by (by decide +kernel)
abbrev sPanelEntries : Stmt := inClass (top 21) 1
abbrev nPanelEntries : List Str := ["self"]
theorem scPanelEntries : FnScope nPanelEntries ["self"] (C8.fnScope sPanelEntries) := C8.fnScope_by (by decide +kernel)
abbrev sPanelRows : Stmt := inClass (top 21) 2
abbrev nPanelRows : List Str := ["self", "row"]
theorem scPanelRows : FnScope nPanelRows ["self"] (C8.fnScope sPanelRows) := C8.fnScope_by (by decide +kernel)
abbrev sPanelLen : Stmt := inClass (top 21) 3
abbrev nPanelLen : List Str := ["self"]
theorem scPanelLen : FnScope nPanelLen ["self"] (C8.fnScope sPanelLen) := C8.fnScope_by (by decide +kernel)
abbrev sPanelEq : Stmt := inClass (top 21) 8
abbrev nPanelEq : List Str := ["self", "other"]
theorem scPanelEq : FnScope nPanelEq ["self", "other"] (C8.fnScope sPanelEq) := C8.fnScope_by (by decide +kernel)
abbrev sSpotsOf : Stmt := top 22
abbrev nSpotsOf : List Str := ["row", "spot", "name"]
theorem scSpotsOf : FnScope nSpotsOf ["row"] (C8.fnScope sSpotsOf) := C8.fnScope_by (by decide +kernel)
abbrev sIsRow : Stmt := top 23
abbrev nIsRow : List Str := ["value", "entries"]
theorem scIsRow : FnScope nIsRow ["value", "entries"] (C8.fnScope sIsRow) := C8.fnScope_by (by decide +kernel)
abbrev sAreRows : Stmt := top 24
abbrev nAreRows : List Str := ["value", "entries", "row"]
theorem scAreRows : FnScope nAreRows ["value", "entries"] (C8.fnScope sAreRows) := C8.fnScope_by (by decide +kernel)
-- top 25: __name__ = 'panelfairs.books'
abbrev sIsLine : Stmt := top 26
abbrev nIsLine : List Str := ["value", "names", "word", "lot", "entry"]
theorem scIsLine : FnScope nIsLine ["value", "names"] (C8.fnScope sIsLine) := C8.fnScope_by (by decide +kernel)
abbrev sCopied : Stmt := top 27
abbrev nCopied : List Str := ["line"]
theorem scCopied : FnScope nCopied ["line"] (C8.fnScope sCopied) := C8.fnScope_by (by decide +kernel)
abbrev sBookInit : Stmt := inClass (top 28) 0
abbrev nBookInit : List Str := ["self", "entries", "lines", "line"]
theorem scBookInit : FnScope nBookInit ["self", "entries", "lines"] (C8.fnScope sBookInit) := C8.fnScope_by (by decide +kernel)
abbrev sBookEntries : Stmt := inClass (top 28) 1
abbrev nBookEntries : List Str := ["self"]
theorem scBookEntries : FnScope nBookEntries ["self"] (C8.fnScope sBookEntries) := C8.fnScope_by (by decide +kernel)
abbrev sBookLines : Stmt := inClass (top 28) 2
abbrev nBookLines : List Str := ["self", "line"]
theorem scBookLines : FnScope nBookLines ["self"] (C8.fnScope sBookLines) := C8.fnScope_by (by decide +kernel)
abbrev sBookWithLine : Stmt := inClass (top 28) 3
abbrev nBookWithLine : List Str := ["self", "line"]
theorem scBookWithLine : FnScope nBookWithLine ["self", "line"] (C8.fnScope sBookWithLine) := C8.fnScope_by (by decide +kernel)
abbrev sBookEq : Stmt := inClass (top 28) 5
abbrev nBookEq : List Str := ["self", "other"]
theorem scBookEq : FnScope nBookEq ["self", "other"] (C8.fnScope sBookEq) := C8.fnScope_by (by decide +kernel)
abbrev sCheckBook : Stmt := top 29
abbrev nCheckBook : List Str := ["value"]
theorem scCheckBook : FnScope nCheckBook ["value"] (C8.fnScope sCheckBook) := C8.fnScope_by (by decide +kernel)
abbrev sOffsOf : Stmt := top 30
abbrev nOffsOf : List Str := ["book", "wishes", "found", "word", "lot", "entry", "field", "name"]
theorem scOffsOf : FnScope nOffsOf ["book", "wishes"] (C8.fnScope sOffsOf) := C8.fnScope_by (by decide +kernel)
abbrev sWalked : Stmt := top 31
abbrev nWalked : List Str := ["names", "offs", "row", "rest", "is_new", "barred", "lot", "entry", "name", "free"]
theorem scWalked : FnScope nWalked ["names", "offs"] (C8.fnScope sWalked) := C8.fnScope_by (by decide +kernel)
abbrev sCallsOf : Stmt := top 32
abbrev nCallsOf : List Str := ["book", "line"]
theorem scCallsOf : FnScope nCallsOf ["book"] (C8.fnScope sCallsOf) := C8.fnScope_by (by decide +kernel)
abbrev sBarOf : Stmt := top 33
abbrev nBarOf : List Str := ["book", "rest", "line"]
theorem scBarOf : FnScope nBarOf ["book"] (C8.fnScope sBarOf) := C8.fnScope_by (by decide +kernel)
abbrev sPanelThatKeeps : Stmt := top 34
abbrev nPanelThatKeeps : List Str := ["book", "rows", "line"]
theorem scPanelThatKeeps : FnScope nPanelThatKeeps ["book"] (C8.fnScope sPanelThatKeeps) := C8.fnScope_by (by decide +kernel)
abbrev sSomePanel : Stmt := top 35
abbrev nSomePanel : List Str := ["book"]
theorem scSomePanel : FnScope nSomePanel ["book"] (C8.fnScope sSomePanel) := C8.fnScope_by (by decide +kernel)
-- top 36: __name__ = 'panelfairs.implied'
abbrev sContraryOf : Stmt := top 37
abbrev nContraryOf : List Str := ["line", "word", "lot", "entry", "others", "name"]
theorem scContraryOf : FnScope nContraryOf ["line"] (C8.fnScope sContraryOf) := C8.fnScope_by (by decide +kernel)
abbrev sCheckLine : Stmt := top 38
abbrev nCheckLine : List Str := ["book", "line"]
theorem scCheckLine : FnScope nCheckLine ["book", "line"] (C8.fnScope sCheckLine) := C8.fnScope_by (by decide +kernel)
abbrev sIsImplied : Stmt := top 39
abbrev nIsImplied : List Str := ["book", "line", "other"]
theorem scIsImplied : FnScope nIsImplied ["book", "line"] (C8.fnScope sIsImplied) := C8.fnScope_by (by decide +kernel)
abbrev sFollows : Stmt := top 40
abbrev nFollows : List Str := ["book", "line"]
theorem scFollows : FnScope nFollows ["book", "line"] (C8.fnScope sFollows) := C8.fnScope_by (by decide +kernel)
-- top 41: __name__ = 'panelfairs.watched'
abbrev sIsRound : Stmt := top 42
abbrev nIsRound : List Str := ["value", "entries"]
theorem scIsRound : FnScope nIsRound ["value", "entries"] (C8.fnScope sIsRound) := C8.fnScope_by (by decide +kernel)
abbrev sCheckRounds : Stmt := top 43
abbrev nCheckRounds : List Str := ["value", "entries", "item"]
theorem scCheckRounds : FnScope nCheckRounds ["value", "entries"] (C8.fnScope sCheckRounds) := C8.fnScope_by (by decide +kernel)
abbrev sOthersOf : Stmt := top 44
abbrev nOthersOf : List Str := ["field", "entry", "name"]
theorem scOthersOf : FnScope nOthersOf ["field", "entry"] (C8.fnScope sOthersOf) := C8.fnScope_by (by decide +kernel)
abbrev sRoundsBook : Stmt := top 45
abbrev nRoundsBook : List Str := ["entries", "rounds", "lines", "field", "named", "name"]
theorem scRoundsBook : FnScope nRoundsBook ["entries", "rounds"] (C8.fnScope sRoundsBook) := C8.fnScope_by (by decide +kernel)
abbrev sBookOfRounds : Stmt := top 46
abbrev nBookOfRounds : List Str := ["entries", "rounds"]
theorem scBookOfRounds : FnScope nBookOfRounds ["entries", "rounds"] (C8.fnScope sBookOfRounds) := C8.fnScope_by (by decide +kernel)
abbrev sFittingBook : Stmt := top 47
abbrev nFittingBook : List Str := ["entries", "rounds", "book"]
theorem scFittingBook : FnScope nFittingBook ["entries", "rounds"] (C8.fnScope sFittingBook) := C8.fnScope_by (by decide +kernel)
abbrev sWordOf : Stmt := top 48
abbrev nWordOf : List Str := ["book", "field", "entry"]
theorem scWordOf : FnScope nWordOf ["book", "field", "entry"] (C8.fnScope sWordOf) := C8.fnScope_by (by decide +kernel)
abbrev sVerdict : Stmt := top 49
abbrev nVerdict : List Str := ["entries", "rounds", "field", "book", "words", "name"]
theorem scVerdict : FnScope nVerdict ["entries", "rounds", "field"] (C8.fnScope sVerdict) := C8.fnScope_by (by decide +kernel)
-- top 50: __name__ = 'law_panelfairs_k82_whole_verdicts'
abbrev sLawPurse : Stmt := top 51
abbrev nLawPurse : List Str := ["script", "at", "seed"]
theorem scLawPurse : FnScope nLawPurse ["script", "at"] (C8.fnScope sLawPurse) := C8.fnScope_by (by decide +kernel)
abbrev sLawMixed : Stmt := top 52
abbrev nLawMixed : List Str := ["seed", "turn", "at", "mixed"]
theorem scLawMixed : FnScope nLawMixed ["seed", "turn", "at"] (C8.fnScope sLawMixed) := C8.fnScope_by (by decide +kernel)
abbrev sLawDraw : Stmt := top 53
abbrev nLawDraw : List Str := ["purse", "many", "drawn", "found", "piece"]
theorem scLawDraw : FnScope nLawDraw ["purse", "many"] (C8.fnScope sLawDraw) := C8.fnScope_by (by decide +kernel)
abbrev sLawPurses : Stmt := top 54
abbrev nLawPurses : List Str := ["script", "few", "at"]
theorem scLawPurses : FnScope nLawPurses ["script", "few"] (C8.fnScope sLawPurses) := C8.fnScope_by (by decide +kernel)
abbrev sLawShuffled : Stmt := top 55
abbrev nLawShuffled : List Str := ["purse", "some", "found", "item"]
theorem scLawShuffled : FnScope nLawShuffled ["purse", "some"] (C8.fnScope sLawShuffled) := C8.fnScope_by (by decide +kernel)
abbrev sLawWord : Stmt := top 56
abbrev nLawWord : List Str := ["purse", "found", "turn"]
theorem scLawWord : FnScope nLawWord ["purse"] (C8.fnScope sLawWord) := C8.fnScope_by (by decide +kernel)
abbrev sLawNames : Stmt := top 57
abbrev nLawNames : List Str := ["purse", "many", "some", "fresh", "word"]
theorem scLawNames : FnScope nLawNames ["purse", "many"] (C8.fnScope sLawNames) := C8.fnScope_by (by decide +kernel)
abbrev sLawRowsOf : Stmt := top 58
abbrev nLawRowsOf : List Str := ["purse", "names", "many", "base", "found", "way", "turn", "row", "cut", "head", "name"]
theorem scLawRowsOf : FnScope nLawRowsOf ["purse", "names", "many"] (C8.fnScope sLawRowsOf) := C8.fnScope_by (by decide +kernel)
abbrev sLawCards : Stmt := top 59
abbrev nLawCards : List Str := ["rows", "field", "found", "row", "name"]
theorem scLawCards : FnScope nLawCards ["rows", "field"] (C8.fnScope sLawCards) := C8.fnScope_by (by decide +kernel)
abbrev sLawFields : Stmt := top 60
abbrev nLawFields : List Str := ["names", "found", "name", "some"]
theorem scLawFields : FnScope nLawFields ["names"] (C8.fnScope sLawFields) := C8.fnScope_by (by decide +kernel)
abbrev sLawTaken : Stmt := top 61
abbrev nLawTaken : List Str := ["names", "lines", "wishes", "offs", "line", "field", "name", "one", "taken", "turn", "free", "lot"]
theorem scLawTaken : FnScope nLawTaken ["names", "lines", "wishes"] (C8.fnScope sLawTaken) := C8.fnScope_by (by decide +kernel)
abbrev sLawSomeRows : Stmt := top 62
abbrev nLawSomeRows : List Str := ["names", "lines", "rows", "line", "row"]
theorem scLawSomeRows : FnScope nLawSomeRows ["names", "lines"] (C8.fnScope sLawSomeRows) := C8.fnScope_by (by decide +kernel)
abbrev sLawContrary : Stmt := top 63
abbrev nLawContrary : List Str := ["line", "rest", "one"]
theorem scLawContrary : FnScope nLawContrary ["line"] (C8.fnScope sLawContrary) := C8.fnScope_by (by decide +kernel)
abbrev sLawFollows : Stmt := top 64
abbrev nLawFollows : List Str := ["names", "lines", "line", "other"]
theorem scLawFollows : FnScope nLawFollows ["names", "lines", "line"] (C8.fnScope sLawFollows) := C8.fnScope_by (by decide +kernel)
abbrev sLawAllRows : Stmt := top 65
abbrev nLawAllRows : List Str := ["names", "found", "turn", "longer", "row", "name"]
theorem scLawAllRows : FnScope nLawAllRows ["names"] (C8.fnScope sLawAllRows) := C8.fnScope_by (by decide +kernel)
abbrev sLawAllPanels : Stmt := top 66
abbrev nLawAllPanels : List Str := ["names", "found", "row", "some"]
theorem scLawAllPanels : FnScope nLawAllPanels ["names"] (C8.fnScope sLawAllPanels) := C8.fnScope_by (by decide +kernel)
abbrev sLawRounds : Stmt := top 67
abbrev nLawRounds : List Str := ["purse", "names", "rows", "many", "found", "turn", "field", "cards"]
theorem scLawRounds : FnScope nLawRounds ["purse", "names", "rows", "many"] (C8.fnScope sLawRounds) := C8.fnScope_by (by decide +kernel)
abbrev sLawRoundLines : Stmt := top 68
abbrev nLawRoundLines : List Str := ["rounds", "found", "field", "cards", "lines", "name", "line"]
theorem scLawRoundLines : FnScope nLawRoundLines ["rounds"] (C8.fnScope sLawRoundLines) := C8.fnScope_by (by decide +kernel)
abbrev sLawVerdict : Stmt := top 69
abbrev nLawVerdict : List Str := ["names", "rounds", "field", "lines", "found", "name", "rest", "one"]
theorem scLawVerdict : FnScope nLawVerdict ["names", "rounds", "field"] (C8.fnScope sLawVerdict) := C8.fnScope_by (by decide +kernel)
abbrev sLawSeen : Stmt := top 70
abbrev nLawSeen : List Str := ["purse", "most", "many", "names", "rows"]
theorem scLawSeen : FnScope nLawSeen ["purse", "most", "many"] (C8.fnScope sLawSeen) := C8.fnScope_by (by decide +kernel)
abbrev sLawGreatSeen : Stmt := top 71
abbrev nLawGreatSeen : List Str := ["purse", "names", "sign", "rows", "rounds", "turn", "field"]
theorem scLawGreatSeen : FnScope nLawGreatSeen ["purse"] (C8.fnScope sLawGreatSeen) := C8.fnScope_by (by decide +kernel)
abbrev sLawTold : Stmt := top 72
abbrev nLawTold : List Str := ["names", "rounds", "field", "error"]
theorem scLawTold : FnScope nLawTold ["names", "rounds", "field"] (C8.fnScope sLawTold) := C8.fnScope_by (by decide +kernel)
abbrev sLawByAll : Stmt := top 73
abbrev nLawByAll : List Str := ["names", "rounds", "field", "fit", "rows", "item", "found", "name", "some"]
theorem scLawByAll : FnScope nLawByAll ["names", "rounds", "field"] (C8.fnScope sLawByAll) := C8.fnScope_by (by decide +kernel)
abbrev sLawHiddenRight : Stmt := top 74
abbrev nLawHiddenRight : List Str := ["rows", "rounds", "field", "told", "item", "cards", "name"]
theorem scLawHiddenRight : FnScope nLawHiddenRight ["rows", "rounds", "field", "told"] (C8.fnScope sLawHiddenRight) := C8.fnScope_by (by decide +kernel)
abbrev sLaw : Stmt := top 75
abbrev nLaw : List Str := ["script", "purse", "names", "rows", "rounds", "lines", "noted", "is_kept", "field", "told", "due", "name"]
theorem scLaw : FnScope nLaw ["script"] (C8.fnScope sLaw) := C8.fnScope_by (by decide +kernel)
/-! ### names, fields -/
def LT : Str := "abcdefghijklmnopqrstuvwxyz"
/-- a name -/
def isName (z : Str) : Bool := decide (1 ≤ z.length ∧ z.length ≤ 8 ∧ ∀ c ∈ z.cps.toList, c ∈ LT.cps.toList)
/-- unlike names -/
def areNames (l : List Str) : Bool := decide ((∀ z ∈ l, isName z = true) ∧ l.Nodup)
def areEntries (l : List Str) : Bool := areNames l && !decide (l = [])
def isAscending (l : List Str) : Bool := areNames l && decide (l = sortS l)
def isLot (l es : List Str) : Bool := isAscending l && decide (∀ x ∈ l, x ∈ es)
def isField (l es : List Str) : Bool := isLot l es && !decide (l = [])
/-- texts that are handled: short enough, of code points that are some -/
def Zok (z : Str) : Prop := z.length ≤ 1000000 ∧ PyData.strOk z = true
def Lok (l : List Str) : Prop := (∀ z ∈ l, Zok z) ∧ l.length < 64
theorem Lok.lay {l : List Str} (h : Lok l) : Da.lay l := fun a ha => (h.1 a ha).2
theorem lay_nil {α : Type} [Rp α] [Da α] : Da.lay ([] : List α) := fun a h => by cases h
theorem Lok.sort {l : List Str} (h : Lok l) : Lok (sortS l) := ⟨fun z hz => h.1 z (mem_sortS.mp hz), by rw [sortS_length]; exact h.2⟩
theorem sz64 {n : Nat} (h : n < 64) : n < sizeLine := Nat.lt_trans h (by decide)
theorem mem_signs {z s : Str} : s ∈ signs z ↔ ∃ c ∈ z.cps.toList, s = ⟨#[c]⟩ := by
  unfold signs
  rw [List.mem_map]
  exact ⟨fun ⟨c, h, e⟩ => ⟨c, h, e.symm⟩, fun ⟨c, h, e⟩ => ⟨c, h, e.symm⟩⟩
theorem decide_ff {p : Prop} [Decidable p] (h : p → False) : decide p = false := decide_eq_false h
theorem strOk_sign {c : Nat} {z : Str} (h : PyData.strOk z = true) (hc : c ∈ z.cps.toList) : PyData.strOk ⟨#[c]⟩ = true := by
  unfold PyData.strOk at *
  rw [Array.all_eq_true_iff_forall_mem] at *
  intro x hx
  have e : x = c := by simpa using hx
  rw [e]
  exact h c (Array.mem_toList_iff.mp hc)
theorem filter_nil_iff {α : Type} {l : List α} {t : α → Bool} : l.filter t = [] ↔ ∀ x ∈ l, t x = false := by
  rw [List.filter_eq_nil_iff]
  exact ⟨fun h x hx => by simpa using h x hx, fun h x hx => by simpa using h x hx⟩
section
variable {P : Program} {w : World} {K : PySem.W.Frag} {mg : Str → Option Value} {base : Heap} {f : Addr} {fd : FuncData}
theorem c_is_name {t : Tok} (D : C8.Def K mg "is_name" sIsName f fd) (b : Binds K fd ["value"] []) (B : Bt mg) (hL : mg "LETTERS" = some (.str LT t)) :
    C8.Cal P w K mg base 1 "is_name" (P1 Zok isName) [] := by
  refine fn1 D b scIsName rfl fun cdv A outer s H E G v z hr r hz => ?_
  have hzl : z.length ≤ sizeLine := Nat.le_trans hz.1 (by decide)
  refine Bl.ite (EW.t (EW.or (ET.not (ET.val (Ev.isiStr B (Ev.v 0 rfl r)))) fun _ => EW.or (ET.lt (Ev.lenS B (Ev.v 0 rfl r) hzl) Ev.int) fun _ => EW.or1 (ET.gt (Ev.lenS B (Ev.v 0 rfl r) hzl) Ev.int))) (fun h => Bl.rv (Ev.bl.eq ?_)) fun h => Bl.rv (Ev.eq (Ev.eqD (by have := hr.units; exact this)
    (Ev.lcSel 1 (t := fun s => !decide (s.cps.getD 0 0 ∈ LT.cps.toList)) (EI.str (Ev.v 0 rfl r)) (fun d hd G' v' s1 r' s H C cl fp => ?_) ?_ scIsName.nd (blkOk_by (N := nIsName) (sc := C8.fnScope sIsName) (by decide +kernel))) Ev.nil ?_ lay_nil) ?_)
  · simp only [Bool.not_true, Bool.false_or, Bool.or_eq_true, decide_eq_true_eq] at h
    exact (decide_ff fun hh => by obtain ⟨h1, h2, _⟩ := hh; omega).symm
  · obtain ⟨c, hc, rfl⟩ := mem_signs.mp hd
    exact ETs_cast (ET.niS (Ev.v 1 rfl r') (Ev.gstr hL))
  · simp only [signs, List.length_map, Array.length_toList]
    exact Nat.lt_of_le_of_lt hz.1 (by decide)
  · intro a ha
    obtain ⟨c, hc, rfl⟩ := mem_signs.mp (List.mem_filter.mp ha).1
    exact strOk_sign hz.2 hc
  · simp only [Bool.not_true, Bool.false_or, Bool.or_eq_false_iff, decide_eq_false_iff_not] at h
    unfold isName
    rw [Bool.eq_iff_iff, decide_eq_true_eq, decide_eq_true_eq, filter_nil_iff]
    constructor
    · intro hh
      refine ⟨by omega, by omega, fun c hc => ?_⟩
      have := hh ⟨#[c]⟩ (mem_signs.mpr ⟨c, hc, rfl⟩)
      simpa using this
    · rintro ⟨_, _, hh⟩ x hx
      obtain ⟨c, hc, rfl⟩ := mem_signs.mp hx
      simpa using hh c hc
where
  ETs_cast {X : Cx} {e : Expr} {σ : St} {G : Hp} {c : Nat} {z : Str} (h : ET X e σ G (!decide (c ∈ z.cps.toList))) : ET X e σ G (!decide ((⟨#[c]⟩ : Str).cps.getD 0 0 ∈ z.cps.toList)) := h
end
section
variable {P : Program} {w : World} {K : PySem.W.Frag} {mg : Str → Option Value} {base : Heap} {f : Addr} {fd : FuncData}
theorem not_not_eq {b : Bool} (h : (!b) = false) : b = true := by cases b <;> simp_all
theorem c_are_names (D : C8.Def K mg "are_names" sAreNames f fd) (b : Binds K fd ["value"] []) (B : Bt mg) (cN : C8.Cal P w K mg base 1 "is_name" (P1 Zok isName) []) :
    C8.Cal P w K mg base 2 "are_names" (P1 Lok areNames) [] := by
  refine fn1 D b scAreNames rfl fun cdv A outer s H E G v l hr r hl => ?_
  refine Bl.ite (EW.t (EW.or (ET.not (ET.val (Ev.isiList B (Ev.v 0 rfl r)))) fun _ => EW.or1 (ET.neD hr.units
    (Ev.lcSel 1 (t := fun z => !isName z) (EI.list (Ev.v 0 rfl r)) (fun d hd G' v' s1 r' s H C cl fp => ET.not (ET.val (Ev.call1 cN hr (Ev.v 1 rfl r') (hl.1 d hd)))) (sz64 hl.2) scAreNames.nd (blkOk_by (N := nAreNames) (sc := C8.fnScope sAreNames) (by decide +kernel))) Ev.nil
    (fun a ha => hl.lay a (List.mem_filter.mp ha).1) lay_nil))) (fun h => Bl.rv (Ev.bl.eq ?_)) fun h => Bl.rv (Ev.eq (Ev.eqD hr.units (Ev.lenSet B (Ev.v 0 rfl r) (Nat.lt_trans hl.2 (by decide))) (Ev.lenL B (Ev.v 0 rfl r)) trivial trivial) ?_)
  · simp only [Bool.not_true, Bool.false_or, Bool.not_eq_true', decide_eq_false_iff_not, filter_nil_iff] at h
    refine (decide_ff fun hh => h fun x hx => ?_).symm
    rw [hh.1 x hx]; rfl
  · simp only [Bool.not_true, Bool.false_or, Bool.not_eq_false', decide_eq_true_eq, filter_nil_iff] at h
    unfold areNames
    rw [Bool.eq_iff_iff, decide_eq_true_eq, decide_eq_true_eq]
    constructor
    · intro hh
      exact ⟨fun z hz => by have := h z hz; simpa using this, (dds_length_iff l).mp (by omega)⟩
    · rintro ⟨_, hh⟩
      rw [dds_nodup hh]
theorem c_are_entries (D : C8.Def K mg "are_entries" sAreEntries f fd) (b : Binds K fd ["value"] []) (cN : C8.Cal P w K mg base 2 "are_names" (P1 Lok areNames) []) :
    C8.Cal P w K mg base 3 "are_entries" (P1 Lok areEntries) [] := by
  refine fn1 D b scAreEntries rfl fun cdv A outer s H E G v l hr r hl => ?_
  exact Bl.rv (Ev.and (Ev.call1 cN hr (Ev.v 0 rfl r) hl) fun _ => Ev.one (Ev.neD hr.units (Ev.v 0 rfl r) Ev.nil hl.lay lay_nil))
theorem c_is_ascending (D : C8.Def K mg "is_ascending" sIsAscending f fd) (b : Binds K fd ["value"] []) (B : Bt mg) (cN : C8.Cal P w K mg base 2 "are_names" (P1 Lok areNames) []) :
    C8.Cal P w K mg base 3 "is_ascending" (P1 Lok isAscending) [] := by
  refine fn1 D b scIsAscending rfl fun cdv A outer s H E G v l hr r hl => ?_
  exact Bl.rv (Ev.and (Ev.call1 cN hr (Ev.v 0 rfl r) hl) fun _ => Ev.one (Ev.eqD hr.units (Ev.v 0 rfl r) (Ev.sortedS B (Ev.v 0 rfl r) hl.2) hl.lay hl.sort.lay))
theorem c_is_lot (D : C8.Def K mg "is_lot" sIsLot f fd) (b : Binds K fd ["value", "entries"] []) (cA : C8.Cal P w K mg base 3 "is_ascending" (P1 Lok isAscending) []) :
    C8.Cal P w K mg base 4 "is_lot" (P2 (fun l es => Lok l ∧ Lok es) isLot) [] := by
  refine fn2 D b scIsLot rfl fun cdv A outer s H E G u v l es hr r1 r2 h => ?_
  refine Bl.rv (Ev.and (Ev.call1 cA hr (Ev.v 0 rfl r1) h.1) fun _ => Ev.eq (Ev.one (Ev.eqD hr.units
    (Ev.lcSel 2 (t := fun z => !decide (z ∈ es)) (EI.list (Ev.v 0 rfl r1)) (fun d hd G' v' s1 r' s H C cl fp => ET.niD hr.units65 (Ev.v 2 rfl r') (Ev.v 1 rfl (rup s1 r2)) (h.1.1 d hd).2 h.2.lay) (sz64 h.1.2) scIsLot.nd (blkOk_by (N := nIsLot) (sc := C8.fnScope sIsLot) (by decide +kernel))) Ev.nil
    (fun a ha => h.1.lay a (List.mem_filter.mp ha).1) lay_nil)) ?_)
  rw [Bool.eq_iff_iff, decide_eq_true_eq, decide_eq_true_eq, filter_nil_iff]
  exact ⟨fun hh x hx => by simpa using hh x hx, fun hh x hx => by simpa using hh x hx⟩
theorem c_is_field (D : C8.Def K mg "is_field" sIsField f fd) (b : Binds K fd ["value", "entries"] []) (cL : C8.Cal P w K mg base 4 "is_lot" (P2 (fun l es => Lok l ∧ Lok es) isLot) []) :
    C8.Cal P w K mg base 5 "is_field" (P2 (fun l es => Lok l ∧ Lok es) isField) [] := by
  refine fn2 D b scIsField rfl fun cdv A outer s H E G u v l es hr r1 r2 h => ?_
  exact Bl.rv (Ev.and (Ev.call2 cL hr (Ev.v 0 rfl r1) (Ev.v 1 rfl r2) h) fun _ => Ev.one (Ev.neD hr.units (Ev.v 0 rfl r1) Ev.nil h.1.lay lay_nil))
theorem c_check_entries (D : C8.Def K mg "check_entries" sCheckEntries f fd) (b : Binds K fd ["value"] []) (cE : C8.Cal P w K mg base 3 "are_entries" (P1 Lok areEntries) []) :
    C8.Cal P w K mg base 4 "check_entries" (P1 (fun l => Lok l ∧ areEntries l = true) (fun _ => ())) [] := by
  refine fn1 D b scCheckEntries rfl fun cdv A outer s H E G v l hr r h => ?_
  exact Bl.ifF (ET.eq (ET.not (ET.val (Ev.call1 cE hr (Ev.v 0 rfl r) h.1))) (by rw [h.2]; rfl)) (Bl.nil fun _ _ => rfl)
end
end T82

namespace T82
open PySem L2 D1 Rp
/-! ### panels -/
/-- the places of the entries in a row, as a dict -/
def spotsOf (row : List Str) : DctS Int := ⟨(enumd row).map fun p => (p.2, p.1)⟩
def isRow (v es : List Str) : Bool := areNames v && decide (sortS v = sortS es)
def areRows (rs : List (List Str)) (es : List Str) : Bool := decide (∀ r ∈ rs, isRow r es = true)
/-- a panel of the class at C -/
structure Pan (C : Addr) where
  names : List Str
  orders : List (List Str)
  deriving DecidableEq
def panF (vn vo vs : V) : List (Str × V) := putF "spots" vs (putF "orders" vo (putF "names" vn []))
theorem panF_n {vn vo vs : V} : (panF vn vo vs).lookup ("names" : Str) = some vn := by
  unfold panF
  rw [lookup_putF, if_neg (by decide +kernel), lookup_putF, if_neg (by decide +kernel), lookup_putF, if_pos rfl]
theorem panF_o {vn vo vs : V} : (panF vn vo vs).lookup ("orders" : Str) = some vo := by
  unfold panF
  rw [lookup_putF, if_neg (by decide +kernel), lookup_putF, if_pos rfl]
theorem panF_s {vn vo vs : V} : (panF vn vo vs).lookup ("spots" : Str) = some vs := by
  unfold panF
  rw [lookup_putF, if_pos rfl]
theorem panF_no {vn vo vs : V} {m : Str} (h1 : ¬ m = "names") (h2 : ¬ m = "orders") (h3 : ¬ m = "spots") : List.lookup m (panF vn vo vs) = none := by
  unfold panF
  rw [lookup_putF, if_neg h3, lookup_putF, if_neg h2, lookup_putF, if_neg h1]
  rfl
instance {C : Addr} : Rp (Pan C) := ⟨fun H v d => ∃ p dx vn vo vs, v = .ref p ∧ H p = some (.ins C dx (panF vn vo vs)) ∧ rp H vn d.names ∧ rp H vo d.orders ∧ rp H vs (d.orders.map spotsOf),
  fun s ⟨p, dx, vn, vo, vs, e, h, r1, r2, r3⟩ => ⟨p, dx, vn, vo, vs, e, s _ _ h, rup s r1, rup s r2, rup s r3⟩⟩
instance {C : Addr} : In1 (Pan C) C := ⟨fun ⟨p, dx, vn, vo, vs, e, h, _⟩ => ⟨p, dx, _, e, h⟩⟩
instance {C : Addr} : Ri (Pan C) := ⟨fun {H v a b} ⟨p, dx, vn, vo, vs, e, h, r1, r2, r3⟩ ⟨p', dx', vn', vo', vs', e', h', r1', r2', r3'⟩ => by
  subst e
  cases e'
  rw [h] at h'
  have hf : panF vn vo vs = panF vn' vo' vs' := by injection h' with h'; injection h'
  have e1 : vn = vn' := by have := congrArg (fun l => List.lookup ("names" : Str) l) hf; simpa [panF_n] using this
  have e2 : vo = vo' := by have := congrArg (fun l => List.lookup ("orders" : Str) l) hf; simpa [panF_o] using this
  subst e1 e2
  obtain ⟨a1, a2⟩ := a
  obtain ⟨b1, b2⟩ := b
  have e3 : a1 = b1 := Ri.inj r1 r1'
  have e4 : a2 = b2 := Ri.inj r2 r2'
  rw [e3, e4]⟩
/-- what the top has made of the class -/
structure PanT (K : PySem.W.Frag) (mg : Str → Option Value) (C : Addr) : Prop where
  cl : Cls K C
  nN : NoAttr K C "names"
  nO : NoAttr K C "orders"
  nS : NoAttr K C "spots"
  mgC : mg "Panel" = some (.ref C)
  isi : C8.InsC K C
theorem panN {K : PySem.W.Frag} {mg : Str → Option Value} {C : Addr} (T : PanT K mg C) (d : Pan C) : FldOf K "names" d d.names := fun H v ⟨p, dx, vn, vo, vs, e, h, r1, _⟩ => ⟨p, C, dx, _, vn, e, h, T.cl, T.nN, panF_n, r1⟩
theorem panO {K : PySem.W.Frag} {mg : Str → Option Value} {C : Addr} (T : PanT K mg C) (d : Pan C) : FldOf K "orders" d d.orders := fun H v ⟨p, dx, vn, vo, vs, e, h, _, r2, _⟩ => ⟨p, C, dx, _, vo, e, h, T.cl, T.nO, panF_o, r2⟩
theorem panS {K : PySem.W.Frag} {mg : Str → Option Value} {C : Addr} (T : PanT K mg C) (d : Pan C) : FldOf K "spots" d (d.orders.map spotsOf) := fun H v ⟨p, dx, vn, vo, vs, e, h, _, _, r3⟩ => ⟨p, C, dx, _, vs, e, h, T.cl, T.nS, panF_s, r3⟩
theorem panM {C : Addr} {m : Str} (d : Pan C) (h1 : ¬ m = "names") (h2 : ¬ m = "orders") (h3 : ¬ m = "spots") : MthOf C m d := fun H v ⟨p, dx, vn, vo, vs, e, h, _⟩ => ⟨p, dx, _, e, h, panF_no h1 h2 h3⟩
/-- rows that are handled -/
def Rok (rs : List (List Str)) : Prop := (∀ r ∈ rs, Lok r) ∧ rs.length < 4000
theorem Rok.lay {rs : List (List Str)} (h : Rok rs) : Da.lay rs := fun r hr => (h.1 r hr).lay
theorem Rok.sz {rs : List (List Str)} (h : Rok rs) : rs.length < sizeLine := Nat.lt_trans h.2 (by decide)
/-- a panel that is handled -/
def PanOk {C : Addr} (p : Pan C) : Prop := Lok p.names ∧ Rok p.orders
def panPre (es : List Str) (rs : List (List Str)) : Prop := Lok es ∧ areEntries es = true ∧ Rok rs ∧ areRows rs es = true ∧ rs ≠ []
theorem enumd_snd {α : Type} (l : List α) : (enumd l).map (·.2) = l := by
  apply List.ext_getElem?
  intro i
  rw [List.getElem?_map]
  cases e : l[i]? with
  | none =>
    have : (enumd l)[i]? = none := by rw [List.getElem?_eq_none_iff, enumd_len]; exact List.getElem?_eq_none_iff.mp e
    rw [this]; rfl
  | some x => rw [enumd_at e]; rfl
section
variable {P : Program} {w : World} {K : PySem.W.Frag} {mg : Str → Option Value} {base : Heap} {f C : Addr} {fd : FuncData}
theorem c_spots_of (D : C8.Def K mg "spots_of" sSpotsOf f fd) (b : Binds K fd ["row"] []) (B : Bt mg) :
    C8.Cal P w K mg base 1 "spots_of" (P1 (fun l => Lok l ∧ l.Nodup) spotsOf) [] := by
  refine fn1 D b scSpotsOf rfl fun cdv A outer s H E G v l hr r h => ?_
  refine Bl.rv (Ev.dictP B (Ev.lcMap2 1 2 (f := fun p => (p.2, p.1)) (EI.enum B.enumerate (Ev.v 0 rfl r)) (fun d hd G' u' w' s1 r1 r2 s H C cl fp => Ev.tup2 (Ev.v 2 rfl r2) (Ev.v 1 rfl r1)) (by rw [enumd_len]; exact sz64 h.1.2) scSpotsOf.nd (blkOk_by (N := nSpotsOf) (sc := C8.fnScope sSpotsOf) (by decide +kernel))
    (hg := fun s H C cl fp => pg_two rfl scSpotsOf.nd rfl rfl (Or.inl rfl) (Or.inl rfl) (Or.inr rfl) (Or.inr rfl))) ?_)
  rw [List.map_map]
  have e : (enumd l).map ((fun x => x.1) ∘ fun p => (p.2, p.1)) = l := enumd_snd l
  rw [e]
  exact h.2
theorem c_is_row (D : C8.Def K mg "is_row" sIsRow f fd) (b : Binds K fd ["value", "entries"] []) (B : Bt mg) (cN : C8.Cal P w K mg base 2 "are_names" (P1 Lok areNames) []) :
    C8.Cal P w K mg base 3 "is_row" (P2 (fun l es => Lok l ∧ Lok es) isRow) [] := by
  refine fn2 D b scIsRow rfl fun cdv A outer s H E G u v l es hr r1 r2 h => ?_
  exact Bl.rv (Ev.and (Ev.call1 cN hr (Ev.v 0 rfl r1) h.1) fun _ => Ev.one (Ev.eqD hr.units (Ev.sortedS B (Ev.v 0 rfl r1) h.1.2) (Ev.sortedS B (Ev.v 1 rfl r2) h.2.2) h.1.sort.lay h.2.sort.lay))
theorem c_are_rows (D : C8.Def K mg "are_rows" sAreRows f fd) (b : Binds K fd ["value", "entries"] []) (B : Bt mg) (cR : C8.Cal P w K mg base 3 "is_row" (P2 (fun l es => Lok l ∧ Lok es) isRow) []) :
    C8.Cal P w K mg base 4 "are_rows" (P2 (fun l es => Rok l ∧ Lok es) areRows) [] := by
  refine fn2 D b scAreRows rfl fun cdv A outer s H E G u v l es hr r1 r2 h => ?_
  refine Bl.rv (Ev.eq (Ev.and (Ev.isiList B (Ev.v 0 rfl r1)) fun _ => Ev.one (Ev.eqD hr.units
    (Ev.lcSel 2 (t := fun r => !isRow r es) (EI.list (Ev.v 0 rfl r1)) (fun d hd G' v' s1 r' s H C cl fp => ET.not (ET.val (Ev.call2 cR hr (Ev.v 2 rfl r') (Ev.v 1 rfl (rup s1 r2)) ⟨h.1.1 d hd, h.2⟩))) h.1.sz scAreRows.nd (blkOk_by (N := nAreRows) (sc := C8.fnScope sAreRows) (by decide +kernel))) Ev.nil
    (fun a ha => h.1.lay a (List.mem_filter.mp ha).1) lay_nil)) ?_)
  rw [Bool.true_and]
  unfold areRows
  rw [Bool.eq_iff_iff, decide_eq_true_eq, decide_eq_true_eq, filter_nil_iff]
  exact ⟨fun hh x hx => by simpa using hh x hx, fun hh x hx => by simpa using hh x hx⟩
theorem areNames_nodup {l : List Str} (h : areNames l = true) : l.Nodup := (of_decide_eq_true h).2
theorem isRow_nodup {l es : List Str} (h : isRow l es = true) : l.Nodup := by
  unfold isRow at h
  rw [Bool.and_eq_true] at h
  exact areNames_nodup h.1
theorem m_panel (F : C8.Fun K "__init__" "Panel.__init__" sPanelInit f fd) (b : Binds K fd ["self", "entries", "rows"] []) (M : Mk K C f) (B : Bt mg) (T : PanT K mg C) (cE : C8.Cal P w K mg base 4 "check_entries" (P1 (fun l => Lok l ∧ areEntries l = true) (fun _ => ())) [])
    (cR : C8.Cal P w K mg base 4 "are_rows" (P2 (fun l es => Rok l ∧ Lok es) areRows) []) (cS : C8.Cal P w K mg base 1 "spots_of" (P1 (fun l => Lok l ∧ l.Nodup) spotsOf) []) :
    C8.Mak P w K mg base 5 "Panel" C (PI2 C panPre (fun es rs => (⟨sortS es, rs⟩ : Pan C))) [] := by
  refine C8.mak0 M T.mgC F b .nil scPanelInit (fun vs H Q E h => ?_) fun cdv A outer s H vs Q E hr h => ?_
  · obtain ⟨G, x, dx, u, v, es, rs, rfl, _⟩ := h
    rfl
  · obtain ⟨G, x, dx, u, v, es, rs, rfl, hx, gx, sG, r1, r2, ⟨h1, h2, h3, h4, h5⟩, kk⟩ := h
    refine ⟨_, pss_ws, ?_⟩
    refine ws_expr (Same.refl G) sG (Ev.call1 cE hr (Ev.v 1 rfl r1) ⟨h1, h2⟩) fun G2 H2 g2 => ?_
    refine ws_ifF g2.g g2.s (ET.eq (EW.t (EW.or (ET.not (ET.val (Ev.call2 cR hr (Ev.v 2 rfl r2) (Ev.v 1 rfl r1) ⟨h3, h1⟩))) fun _ => EW.or1 (ET.eqD hr.units (Ev.v 2 rfl r2) Ev.nil h3.lay lay_nil))) (by rw [h4, decide_eq_false h5]; rfl)) fun G3 H3 g3 => ?_
    have g03 := g2.trans g3
    have hx3 := g03.hh _ _ hx
    have gx3 := g03.f x gx (by rw [hx]; exact fun z => nomatch z)
    refine ws_fld 0 g03.g g3.s rfl hx3 gx3 T.cl T.nN (by show 0 < 1000; decide) (Ev.sortedS B (Ev.v 1 rfl r1) h1.2) fun G4 H4 v4 g4 hx4 r4 => ?_
    have gx4 := g4.f x gx3 (by rw [hx3]; exact fun z => nomatch z)
    refine ws_fld 0 (g03.g.trans g4.g) g4.s rfl hx4 gx4 T.cl T.nO (by show 1 < 1000; decide) (Ev.lcMap 3 (EI.list (Ev.v 2 rfl r2)) (fun d hd G' v' s1 r' s H C cl fp => Ev.listOf B (Ev.v 3 rfl r')) h3.sz scPanelInit.nd (blkOk_by (N := nPanelInit) (sc := C8.fnScope sPanelInit) (by decide +kernel))) fun G5 H5 v5 g5 hx5 r5 => ?_
    have gx5 := g5.f x gx4 (by rw [hx4]; exact fun z => nomatch z)
    refine ws_fld 0 (g03.g.trans (g4.trans g5).g) g5.s rfl hx5 gx5 T.cl T.nS (by show (putF "orders" v5 (putF "names" v4 [])).length < 1000; exact panlen) (Ev.lcMap 3 (EI.list (Ev.v 2 rfl r2)) (fun d hd G' v' s1 r' s H C cl fp => Ev.call1 cS hr (Ev.v 3 rfl r') ⟨h3.1 d hd, isRow_nodup (of_decide_eq_true h4 d hd)⟩) h3.sz scPanelInit.nd (blkOk_by (N := nPanelInit) (sc := C8.fnScope sPanelInit) (by decide +kernel))) fun G6 H6 v6 g6 hx6 r6 => ?_
    have gx6 := g6.f x gx5 (by rw [hx5]; exact fun z => nomatch z)
    refine ws_nil (kk G6 H6 _ (g03.any.trans (g4.trans (g5.trans g6))) hx6 ?_)
    have sm : Same G6 (upd G6 x (.ins C dx (panF v4 v5 v6))) := same_new gx6
    refine ⟨x, dx, v4, v5, v6, rfl, upd_same, rup ((g5.trans g6).g.trans sm) r4, rup (g6.g.trans sm) ?_, rup sm r6⟩
    rw [List.map_id'] at r5
    exact r5
where
  panlen {v4 v5 : V} : (putF "orders" v5 (putF "names" v4 [])).length < 1000 := by
    show (if ("names" : Str) = "orders" then _ else _ :: _ : List (Str × V)).length < 1000
    split <;> simp [putF]
theorem m_panel_rows (F : C8.Fun K "rows" "Panel.rows" sPanelRows f fd) (b : Binds K fd ["self"] []) (me : Meth K C "rows" f) (B : Bt mg) (T : PanT K mg C) :
    C8.Met P w K mg base 1 C "rows" (P1 (fun p : Pan C => Rok p.orders) (fun p => p.orders)) [] := by
  refine ⟨f, fd, _, [], T.cl, me, fk1 F scPanelRows rfl (fun cdv A outer s H E G v d hr r h => ?_), b, .nil⟩
  refine Bl.rv (Ev.eq (Ev.lcMap 1 (f := fun r => r) (EI.list (Ev.fld (panO T d) (Ev.v 0 rfl r))) (fun d hd G' v' s1 r' s H C cl fp => Ev.listOf B (Ev.v 1 rfl r')) h.sz scPanelRows.nd (blkOk_by (N := nPanelRows) (sc := C8.fnScope sPanelRows) (by decide +kernel))) (List.map_id' _))
theorem k_panel_eq (F : C8.Fun K "__eq__" "Panel.__eq__" sPanelEq f fd) (B : Bt mg) (T : PanT K mg C) :
    FnOk P w K mg base C8.CX0 1 f fd ["self", "other"] (P2 (fun a b : Pan C => PanOk a ∧ PanOk b) (fun a b => decide (a = b))) := by
  refine fk2 F scPanelEq rfl fun cdv A outer s H E G u v a b hr r1 r2 h => ?_
  refine Bl.rv (Ev.eq (Ev.and (Ev.isC B T.isi T.mgC (Ev.v 1 rfl r2)) fun _ => Ev.one (Ev.eqD hr.units (Ev.tup2 (Ev.fld (panN T a) (Ev.v 0 rfl r1)) (Ev.fld (panO T a) (Ev.v 0 rfl r1))) (Ev.tup2 (Ev.fld (panN T b) (Ev.v 1 rfl r2)) (Ev.fld (panO T b) (Ev.v 1 rfl r2)))
    (by exact ⟨h.1.1.lay, h.1.2.lay⟩) (by exact ⟨h.2.1.lay, h.2.2.lay⟩))) ?_)
  obtain ⟨a1, a2⟩ := a
  obtain ⟨b1, b2⟩ := b
  simp [Pan.mk.injEq]
end
/-! ### panels right -/
section
variable {P : Program} {w : World} {K : PySem.W.Frag} {mg : Str → Option Value} {base : Heap} {f C eqf : Addr} {fd fe : FuncData}
theorem m_panel_entries (F : C8.Fun K "entries" "Panel.entries" sPanelEntries f fd) (b : Binds K fd ["self"] []) (me : Meth K C "entries" f) (B : Bt mg) (T : PanT K mg C) :
    C8.Met P w K mg base 1 C "entries" (P1 (fun _ : Pan C => True) (fun d => d.names)) [] := by
  refine ⟨f, fd, _, [], T.cl, me, fk1 F scPanelEntries rfl (fun cdv A outer s H E G v d hr r _ => ?_), b, .nil⟩
  exact Bl.rv (Ev.listOf B (Ev.fld (panN T d) (Ev.v 0 rfl r)))
end
end T82

namespace T82
open PySem L2 D1 Rp
/-! ### books -/
abbrev Ln := T3 Str (List Str) Str
def isLine (t : Ln) (ns : List Str) : Bool :=
  decide (t.a = "call" ∨ t.a = "off") && (isField t.b ns && (isName t.c && (decide (t.c ∈ ns) && decide (decide (t.c ∈ t.b) = decide (t.a = "call")))))
/-- a line that is handled -/
def LnOk (t : Ln) : Prop := Zok t.a ∧ Lok t.b ∧ Zok t.c
theorem LnOk.lay {t : Ln} (h : LnOk t) : Da.lay t := ⟨h.1.2, h.2.1.lay, h.2.2.2⟩
def LnsOk (l : List Ln) : Prop := (∀ t ∈ l, LnOk t) ∧ l.length < 4000
theorem LnsOk.lay {l : List Ln} (h : LnsOk l) : Da.lay l := fun t ht => (h.1 t ht).lay
theorem LnsOk.sz {l : List Ln} (h : LnsOk l) : l.length < sizeLine := Nat.lt_trans h.2 (by decide)
/-- a book of the class at C -/
structure Bk (C : Addr) where
  names : List Str
  told : List Ln
  deriving DecidableEq
def bkF (vn vt : V) : List (Str × V) := putF "told" vt (putF "names" vn [])
theorem bkF_n {vn vt : V} : (bkF vn vt).lookup ("names" : Str) = some vn := by
  unfold bkF
  rw [lookup_putF, if_neg (by decide +kernel), lookup_putF, if_pos rfl]
theorem bkF_t {vn vt : V} : (bkF vn vt).lookup ("told" : Str) = some vt := by
  unfold bkF
  rw [lookup_putF, if_pos rfl]
theorem bkF_no {vn vt : V} {m : Str} (h1 : ¬ m = "names") (h2 : ¬ m = "told") : List.lookup m (bkF vn vt) = none := by
  unfold bkF
  rw [lookup_putF, if_neg h2, lookup_putF, if_neg h1]
  rfl
instance {C : Addr} : Rp (Bk C) := ⟨fun H v d => ∃ p dx vn vt, v = .ref p ∧ H p = some (.ins C dx (bkF vn vt)) ∧ rp H vn d.names ∧ rp H vt d.told,
  fun s ⟨p, dx, vn, vt, e, h, r1, r2⟩ => ⟨p, dx, vn, vt, e, s _ _ h, rup s r1, rup s r2⟩⟩
instance {C : Addr} : In1 (Bk C) C := ⟨fun ⟨p, dx, vn, vt, e, h, _⟩ => ⟨p, dx, _, e, h⟩⟩
instance {C : Addr} : Ri (Bk C) := ⟨fun {H v a b} ⟨p, dx, vn, vt, e, h, r1, r2⟩ ⟨p', dx', vn', vt', e', h', r1', r2'⟩ => by
  subst e
  cases e'
  rw [h] at h'
  have hf : bkF vn vt = bkF vn' vt' := by injection h' with h'; injection h'
  have e1 : vn = vn' := by have := congrArg (fun l => List.lookup ("names" : Str) l) hf; simpa [bkF_n] using this
  have e2 : vt = vt' := by have := congrArg (fun l => List.lookup ("told" : Str) l) hf; simpa [bkF_t] using this
  subst e1 e2
  obtain ⟨a1, a2⟩ := a
  obtain ⟨b1, b2⟩ := b
  have e3 : a1 = b1 := Ri.inj r1 r1'
  have e4 : a2 = b2 := Ri.inj r2 r2'
  rw [e3, e4]⟩
structure BkT (K : PySem.W.Frag) (mg : Str → Option Value) (C : Addr) : Prop where
  cl : Cls K C
  nN : NoAttr K C "names"
  nT : NoAttr K C "told"
  mgC : mg "Book" = some (.ref C)
  isi : C8.InsC K C
theorem bkN {K : PySem.W.Frag} {mg : Str → Option Value} {C : Addr} (T : BkT K mg C) (d : Bk C) : FldOf K "names" d d.names := fun H v ⟨p, dx, vn, vt, e, h, r1, _⟩ => ⟨p, C, dx, _, vn, e, h, T.cl, T.nN, bkF_n, r1⟩
theorem bkTo {K : PySem.W.Frag} {mg : Str → Option Value} {C : Addr} (T : BkT K mg C) (d : Bk C) : FldOf K "told" d d.told := fun H v ⟨p, dx, vn, vt, e, h, _, r2⟩ => ⟨p, C, dx, _, vt, e, h, T.cl, T.nT, bkF_t, r2⟩
theorem bkM {C : Addr} {m : Str} (d : Bk C) (h1 : ¬ m = "names") (h2 : ¬ m = "told") : MthOf C m d := fun H v ⟨p, dx, vn, vt, e, h, _⟩ => ⟨p, dx, _, e, h, bkF_no h1 h2⟩
def BkOk {C : Addr} (b : Bk C) : Prop := Lok b.names ∧ LnsOk b.told
def areLines (ls : List Ln) (es : List Str) : Bool := decide (∀ t ∈ ls, isLine t es = true)
def bkPre (es : List Str) (ls : List Ln) : Prop := Lok es ∧ areEntries es = true ∧ LnsOk ls ∧ areLines ls es = true
def mkBk {C : Addr} (es : List Str) (ls : List Ln) : Bk C := ⟨sortS es, dedup (sortD ls)⟩
section
variable {P : Program} {w : World} {K : PySem.W.Frag} {mg : Str → Option Value} {base : Heap} {f C : Addr} {fd : FuncData}
theorem c_is_line (D : C8.Def K mg "is_line" sIsLine f fd) (b : Binds K fd ["value", "names"] []) (B : Bt mg) (cF : C8.Cal P w K mg base 5 "is_field" (P2 (fun l es => Lok l ∧ Lok es) isField) []) (cN : C8.Cal P w K mg base 1 "is_name" (P1 Zok isName) []) :
    C8.Cal P w K mg base 6 "is_line" (P2 (fun t es => LnOk t ∧ Lok es) isLine) [] := by
  refine fn2 D b scIsLine rfl fun cdv A outer s H E G u v t es hr r1 r2 h => ?_
  refine Bl.ifF (ET.eq (EW.t (EW.or (ET.not (ET.val (Ev.isiT3 B (Ev.v 0 rfl r1)))) fun _ => EW.or (ET.neD hr.units (Ev.len3 B (Ev.v 0 rfl r1)) Ev.int trivial trivial) fun _ => EW.or1 (ET.not (ET.val (Ev.isiStr B (Ev.ix30 (Ev.v 0 rfl r1))))))) (by decide)) ?_
  refine Bl.asg3 2 3 4 (Ev.v 0 rfl r1) (fun G' x y z s1 q1 q2 q3 => ?_) scIsLine.nd
  have r2' := rup s1 r2
  refine Bl.ite (EW.t (EW.or (ET.niT2 (Ev.v 2 rfl q1) (Ev.tup2 Ev.str Ev.str)) fun _ => EW.or (ET.not (ET.val (Ev.call2 cF hr (Ev.v 3 rfl q2) (Ev.v 1 rfl r2') ⟨h.1.2.1, h.2⟩))) fun _ => EW.or (ET.not (ET.val (Ev.call1 cN hr (Ev.v 4 rfl q3) h.1.2.2))) fun _ => EW.or1 (ET.niD hr.units65 (Ev.v 4 rfl q3) (Ev.v 1 rfl r2') h.1.2.2.2 h.2.lay)))
    (fun hh => Bl.rv (Ev.bl.eq ?_)) fun hh => Bl.rv (Ev.eq (Ev.eqD hr.units (Ev.inD hr.units65 (Ev.v 4 rfl q3) (Ev.v 3 rfl q2) h.1.2.2.2 h.1.2.1.lay) (Ev.eqD hr.units (Ev.v 2 rfl q1) Ev.str h.1.1.2 (show PyData.strOk ("call" : Str) = true by decide +kernel)) trivial trivial) ?_)
  · unfold isLine
    revert hh
    cases decide (t.a = "call" ∨ t.a = "off") <;> cases isField t.b es <;> cases isName t.c <;> cases decide (t.c ∈ es) <;> simp
  · unfold isLine
    revert hh
    cases decide (t.a = "call" ∨ t.a = "off") <;> cases isField t.b es <;> cases isName t.c <;> cases decide (t.c ∈ es) <;> simp
theorem c_copied (D : C8.Def K mg "copied" sCopied f fd) (b : Binds K fd ["line"] []) (B : Bt mg) :
    C8.Cal P w K mg base 1 "copied" (P1 (fun _ : Ln => True) (fun t => t)) [] := by
  refine fn1 D b scCopied rfl fun cdv A outer s H E G v t hr r _ => ?_
  exact Bl.rv (Ev.tup3 (Ev.ix30 (Ev.v 0 rfl r)) (Ev.listOf B (Ev.ix31 (Ev.v 0 rfl r))) (Ev.ix32 (Ev.v 0 rfl r)))
theorem m_book (F : C8.Fun K "__init__" "Book.__init__" sBookInit f fd) (b : Binds K fd ["self", "entries", "lines"] []) (M : Mk K C f) (B : Bt mg) (T : BkT K mg C) (cE : C8.Cal P w K mg base 3 "are_entries" (P1 Lok areEntries) [])
    (cL : C8.Cal P w K mg base 6 "is_line" (P2 (fun t es => LnOk t ∧ Lok es) isLine) []) (cC : C8.Cal P w K mg base 1 "copied" (P1 (fun _ : Ln => True) (fun t => t)) []) :
    C8.Mak P w K mg base 7 "Book" C (PI2 C bkPre (mkBk : List Str → List Ln → Bk C)) [] := by
  refine C8.mak0 M T.mgC F b .nil scBookInit (fun vs H Q E h => ?_) fun cdv A outer s H vs Q E hr h => ?_
  · obtain ⟨G, x, dx, u, v, es, rs, rfl, _⟩ := h
    rfl
  · obtain ⟨G, x, dx, u, v, es, ls, rfl, hx, gx, sG, r1, r2, ⟨h1, h2, h3, h4⟩, kk⟩ := h
    refine ⟨_, pss_ws, ?_⟩
    refine ws_ifF (Same.refl G) sG (ET.eq (ET.not (ET.val (Ev.call1 cE hr (Ev.v 1 rfl r1) h1))) (by rw [h2]; rfl)) fun G2 H2 g2 => ?_
    refine ws_ifF g2.g g2.s (ET.eq (EW.t (EW.or (ET.not (ET.val (Ev.isiList B (Ev.v 2 rfl r2)))) fun _ => EW.or1 (ET.neD hr.units
      (Ev.lcSel 3 (t := fun t => !isLine t es) (EI.list (Ev.v 2 rfl r2)) (fun d hd G' v' s1 r' s H C cl fp => ET.not (ET.val (Ev.call2 cL hr (Ev.v 3 rfl r') (Ev.v 1 rfl (rup s1 r1)) ⟨h3.1 d hd, h1⟩))) h3.sz scBookInit.nd (blkOk_by (N := nBookInit) (sc := C8.fnScope sBookInit) (by decide +kernel))) Ev.nil
      (fun a ha => h3.lay a (List.mem_filter.mp ha).1) lay_nil))) (by
        have e : ls.filter (fun t => !isLine t es) = [] := filter_nil_iff.mpr fun t ht => by rw [of_decide_eq_true h4 t ht]; rfl
        rw [e]; rfl)) fun G3 H3 g3 => ?_
    have g03 := g2.trans g3
    have hx3 := g03.hh _ _ hx
    have gx3 := g03.f x gx (by rw [hx]; exact fun z => nomatch z)
    refine ws_fld 0 g03.g g3.s rfl hx3 gx3 T.cl T.nN (by show 0 < 1000; decide) (Ev.sortedS B (Ev.v 1 rfl r1) h1.2) fun G4 H4 v4 g4 hx4 r4 => ?_
    have gx4 := g4.f x gx3 (by rw [hx3]; exact fun z => nomatch z)
    have g04 : GrM (fun q => q = x) G H G4 H4 := g03.any.trans g4
    -- self.told = []: a list of its own, not standing
    refine WS.cons (ps_fld (pv 0) (pe_lst pa_nil) rfl) ⟨small_sz (n := 0), fun tl htl => ?_⟩
    have xtl : x ≠ tl := ne_of_none hx4 htl
    refine ⟨_, rfl, x, C, dx, _, rfl, (by rw [upd_ne xtl]; exact hx4), T.cl, T.nT, (by show 1 < 1000; decide), ?_⟩
    have gtl : G4 tl = none := g04.s.free htl
    have g05 : GrM (fun q => q = x) G H G4 (upd (upd H4 tl (.lst [])) x (.ins C dx (bkF v4 (.ref tl)))) := g04.trans ((Gr.newM g4.s htl).any.trans (GrM.put (Gr.newM (o := .lst []) g4.s htl).s gx4 rfl))
    have tl0 : H tl = none := g04.fresh htl
    refine ws_for (fun i σ' G' H' => ∃ acc lv, σ' = [some (.ref x), some u, some v, lv] ∧ GrM (fun q => q = x) G H G' H' ∧ Same G4 G' ∧ G' x = none ∧ G' tl = none ∧ H' x = some (.ins C dx (bkF v4 (.ref tl))) ∧ H' tl = some (.lst acc) ∧ Paired (rp G') acc (dedup ((sortD ls).take i)))
      (G := G4) (Same.refl G4) g05.s (EI.list (Ev.sortedD B hr.units (Ev.v 2 rfl (rup g04.g r2)))) tgB1 (pg_name (i := 3) scBookInit.nd rfl (Or.inl rfl))
      (fun G6 H6 g6 => ⟨[], none, rfl, g05.trans g6.any, g6.g, g6.f x gx4 (by rw [upd_same]; exact fun z => nomatch z), g6.f tl gtl (by rw [upd_ne (Ne.symm xtl), upd_same]; exact fun z => nomatch z), g6.hh _ _ upd_same, g6.hh _ _ (by rw [upd_ne (Ne.symm xtl), upd_same]), .nil⟩) ?_ ?_ PassesOwn.never
    · rintro i c σ1 G6 H6 hc s46 s66 ⟨acc, lv, rfl, gA, sA, nx, nt, hx6, ht6, pr⟩ G7 H7 σ2 g7 ⟨lw, rl, rfl⟩
      have hcl : c ∈ ls := mem_sortD.mp (List.mem_of_getElem? hc)
      have hx7 := g7.hh _ _ hx6
      have ht7 := g7.hh _ _ ht6
      have pr7 : Paired (rp G7) acc (dedup ((sortD ls).take i)) := pmono pr fun _ _ => rup g7.g
      have nx7 := g7.f x nx (by rw [hx6]; exact fun z => nomatch z)
      have nt7 := g7.f tl nt (by rw [ht6]; exact fun z => nomatch z)
      have hsub : ∀ y ∈ dedup ((sortD ls).take i), y ∈ ls := fun y hy => mem_sortD.mp (List.mem_of_mem_take (mem_dedup.mp hy))
      have hlen : acc.length < 4000 := by
        have e1 := pr.length
        have e2 := dedup_length ((sortD ls).take i)
        rw [List.length_take, sortD_length] at e2
        have := h3.2
        omega
      refine ws_ifW (WT.of (pt_cmpR (op_notInD hr.units65) (pv 3) (pe_fld (pv 0) rfl) rfl) ⟨lw, rfl, .ref x, rfl, x, C, dx, _, .ref tl, rfl, hx7, T.cl, T.nT, bkF_t, Da.toD c, _, Da.dp (rup g7.s rl), .lst (SqL.of ht7) (dpAll_of (pmono pr7 fun _ _ => rup g7.s)),
        shaped_of (h3.1 c hcl).lay (by decide), shaped_of (a := dedup ((sortD ls).take i)) (fun y hy => (h3.1 y (hsub y hy)).lay) (by decide), _, rfl, ?_⟩)
      rw [any_eqv]
      by_cases hm : c ∈ dedup ((sortD ls).take i)
      · rw [decide_eq_true hm]
        refine iteF (ws_nil (ws_nil ⟨G7, Same.refl _, g7.s, acc, some lw, rfl, gA.trans g7.any, sA.trans g7.g, nx7, nt7, hx7, ht7, ?_⟩))
        rw [dedup_snoc hc]
        unfold d1
        rw [if_pos hm]
        exact pr7
      · rw [decide_eq_false hm]
        refine iteT (ws_exprW (WE.of (pe_bm PySem.F.plainAttrs_list PySem.F.slot_list_append PySem.F.type_list_append mt_append (pe_fld (pv 0) rfl) (pa_cons pe_we pa_nil)) ?_))
        refine ⟨.ref x, rfl, x, C, dx, _, .ref tl, rfl, hx7, T.cl, T.nT, bkF_t, .inl ⟨rfl, _, SqL.of ht7⟩, ?_⟩
        refine Ev.ap (a := c) (G1 := G7) g7.s (Ev.call1 (f := fun t => t) (a := c) cC hr (Ev.v 3 rfl rl) trivial) fun G8 H8 w8 g8 r8 => ?_
        have ht8 := g8.hh _ _ ht7
        have nt8 := g8.f tl nt7 (by rw [ht7]; exact fun z => nomatch z)
        refine ⟨tl, acc, w8, rfl, rfl, ht8, Nat.lt_trans hlen (by decide), ?_⟩
        have gp : GrM (fun q => q = tl) G8 H8 G8 (upd H8 tl (.lst (acc ++ [w8]))) := GrM.put g8.s nt8 rfl
        refine ws_nil (ws_nil ⟨G8, g8.g, gp.s, acc ++ [w8], some lw, rfl, ?_, sA.trans (g7.trans g8).g, g8.f x nx7 (by rw [hx7]; exact fun z => nomatch z), nt8, by rw [upd_ne xtl]; exact g8.hh _ _ hx7, upd_same, ?_⟩)
        · have gB := (gA.trans g7.any).trans g8.any
          refine ⟨gB.g, fun b' o' nb e => ?_, gp.s, gB.f, fun b' n => upd_some (gB.d b' n)⟩
          rw [upd_ne (ne_of_none e tl0)]
          exact gB.h b' o' nb e
        · rw [dedup_snoc hc]
          unfold d1
          rw [if_neg hm]
          exact r2_cat.PairedAppend (pmono pr7 fun _ _ => rup g8.g) (.cons r8 .nil)
    · rintro σ1 G6 H6 s46 s66 ⟨acc, lv, rfl, gA, sA, nx, nt, hx6, ht6, pr⟩
      rw [List.take_length] at pr
      have gP := gA.promote tl0 nt ht6
      have nx' : upd G6 tl (.lst acc) x = none := by rw [upd_ne xtl]; exact nx
      have sm : Same G6 (upd (upd G6 tl (.lst acc)) x (.ins C dx (bkF v4 (.ref tl)))) := (same_new nt).trans (same_new nx')
      refine ws_nil (kk _ H6 _ gP hx6 ⟨x, dx, v4, .ref tl, rfl, upd_same, rup (sA.trans sm) r4, tl, acc, rfl, by rw [upd_ne (Ne.symm xtl), upd_same], pmono pr fun _ _ => rup sm⟩)
theorem m_book_entries (F : C8.Fun K "entries" "Book.entries" sBookEntries f fd) (b : Binds K fd ["self"] []) (me : Meth K C "entries" f) (B : Bt mg) (T : BkT K mg C) :
    C8.Met P w K mg base 1 C "entries" (P1 (fun _ : Bk C => True) (fun d => d.names)) [] := by
  refine ⟨f, fd, _, [], T.cl, me, fk1 F scBookEntries rfl (fun cdv A outer s H E G v d hr r _ => ?_), b, .nil⟩
  exact Bl.rv (Ev.listOf B (Ev.fld (bkN T d) (Ev.v 0 rfl r)))
theorem m_book_lines (F : C8.Fun K "lines" "Book.lines" sBookLines f fd) (b : Binds K fd ["self"] []) (me : Meth K C "lines" f) (B : Bt mg) (T : BkT K mg C) (cC : C8.Cal P w K mg base 1 "copied" (P1 (fun _ : Ln => True) (fun t => t)) []) :
    C8.Met P w K mg base 2 C "lines" (P1 (fun d : Bk C => LnsOk d.told) (fun d => d.told)) [] := by
  refine ⟨f, fd, _, [], T.cl, me, fk1 F scBookLines rfl (fun cdv A outer s H E G v d hr r h => ?_), b, .nil⟩
  exact Bl.rv (Ev.eq (Ev.lcMap 1 (f := fun t => t) (EI.list (Ev.fld (bkTo T d) (Ev.v 0 rfl r))) (fun d hd G' v' s1 r' s H C cl fp => Ev.call1 (f := fun t => t) (a := d) cC hr (Ev.v 1 rfl r') trivial) h.sz scBookLines.nd (blkOk_by (N := nBookLines) (sc := C8.fnScope sBookLines) (by decide +kernel))) (List.map_id' _))
theorem k_book_eq (F : C8.Fun K "__eq__" "Book.__eq__" sBookEq f fd) (B : Bt mg) (T : BkT K mg C) :
    FnOk P w K mg base C8.CX0 1 f fd ["self", "other"] (P2 (fun a b : Bk C => BkOk a ∧ BkOk b) (fun a b => decide (a = b))) := by
  refine fk2 F scBookEq rfl fun cdv A outer s H E G u v a b hr r1 r2 h => ?_
  refine Bl.rv (Ev.eq (Ev.and (Ev.isC B T.isi T.mgC (Ev.v 1 rfl r2)) fun _ => Ev.one (Ev.eqD hr.units (Ev.tup2 (Ev.fld (bkN T a) (Ev.v 0 rfl r1)) (Ev.fld (bkTo T a) (Ev.v 0 rfl r1))) (Ev.tup2 (Ev.fld (bkN T b) (Ev.v 1 rfl r2)) (Ev.fld (bkTo T b) (Ev.v 1 rfl r2)))
    (by exact ⟨h.1.1.lay, h.1.2.lay⟩) (by exact ⟨h.2.1.lay, h.2.2.lay⟩))) ?_)
  obtain ⟨a1, a2⟩ := a
  obtain ⟨b1, b2⟩ := b
  simp [Bk.mk.injEq]
theorem c_check_book (D : C8.Def K mg "check_book" sCheckBook f fd) (b : Binds K fd ["value"] []) (B : Bt mg) (T : BkT K mg C) :
    C8.Cal P w K mg base 1 "check_book" (P1 (fun _ : Bk C => True) (fun _ => ())) [] := by
  refine fn1 D b scCheckBook rfl fun cdv A outer s H E G v d hr r _ => ?_
  exact Bl.ifF (ET.eq (ET.not (ET.val (Ev.isC B T.isi T.mgC (Ev.v 0 rfl r)))) rfl) (Bl.nil fun _ _ => rfl)
end
end T82

namespace T82
open PySem L2 D1 Rp
/-! ### texts: the plain laws -/
open SX
/-- few names, unlike -/
def Nok (ns : List Str) : Prop := areNames ns = true ∧ ns.length < 64
theorem isName_at {z : Str} (h : isName z = true) : 1 ≤ z.length ∧ z.length ≤ 8 ∧ ∀ c ∈ z.cps.toList, 97 ≤ c ∧ c ≤ 122 := by
  have h' := of_decide_eq_true h
  refine ⟨h'.1, h'.2.1, fun c hc => ?_⟩
  have e : ∀ c ∈ LT.cps.toList, 97 ≤ c ∧ c ≤ 122 := by decide +kernel
  exact e c (h'.2.2 c hc)
theorem strOk_low {z : Str} (h : ∀ c ∈ z.cps.toList, c < 128) : PyData.strOk z = true := by
  unfold PyData.strOk
  rw [Array.all_eq_true_iff_forall_mem]
  intro x hx
  have := h x (Array.mem_toList_iff.mpr hx)
  first
    | (simp only [decide_eq_true_eq]; omega)
    | (simp; omega)
theorem isName_zok {z : Str} (h : isName z = true) : Zok z := by
  obtain ⟨h1, h2, h3⟩ := isName_at h
  exact ⟨by omega, strOk_low fun c hc => by have := h3 c hc; omega⟩
theorem Nok.name {ns : List Str} (h : Nok ns) : ∀ z ∈ ns, isName z = true := (of_decide_eq_true h.1).1
theorem Nok.nodup {ns : List Str} (h : Nok ns) : ns.Nodup := (of_decide_eq_true h.1).2
theorem Nok.lok {ns : List Str} (h : Nok ns) : Lok ns := ⟨fun z hz => isName_zok (h.name z hz), h.2⟩
theorem joinL_le (s : List Nat) : ∀ l : List (List Nat), (TL.joinL s l).length ≤ (l.map (·.length)).sum + l.length * s.length
  | [] => by simp [TL.joinL]
  | [p] => by simp [TL.joinL]
  | p :: q :: r => by
    have := joinL_le s (q :: r)
    simp only [TL.joinL, List.length_append, List.map_cons, List.sum_cons, List.length_cons] at *
    have e : (r.length + 1 + 1) * s.length = (r.length + 1) * s.length + s.length := by rw [Nat.add_mul, Nat.one_mul]
    omega
theorem mem_joinL {s : List Nat} {c : Nat} : ∀ {l : List (List Nat)}, c ∈ TL.joinL s l → c ∈ s ∨ ∃ p ∈ l, c ∈ p
  | [], h => by cases h
  | [p], h => .inr ⟨p, List.mem_cons_self, h⟩
  | p :: q :: r, h => by
    rcases List.mem_append.mp h with h | h
    · exact .inr ⟨p, List.mem_cons_self, h⟩
    rcases List.mem_append.mp h with h | h
    · exact .inl h
    rcases mem_joinL h with h | ⟨p', h1, h2⟩
    · exact .inl h
    · exact .inr ⟨p', List.mem_cons_of_mem _ h1, h2⟩
theorem sum_le {α : Type} (f : α → Nat) (b : Nat) : ∀ l : List α, (∀ x ∈ l, f x ≤ b) → (l.map f).sum ≤ l.length * b
  | [], _ => by simp
  | x :: r, h => by
    have h1 := h x List.mem_cons_self
    have h2 := sum_le f b r fun y hy => h y (List.mem_cons_of_mem _ hy)
    simp only [List.map_cons, List.sum_cons, List.length_cons]
    rw [Nat.add_mul]
    omega
abbrev tl (z : Str) : List Nat := z.cps.toList
theorem join_at (s : List Nat) (l : List Str) : Txt.join (S s) l = S (TL.joinL s (l.map tl)) := by
  have e : l = (l.map tl).map S := by rw [List.map_map]; exact (List.map_id' l).symm.trans (List.map_congr_left fun z _ => (S_tl z).symm)
  conv => lhs; rw [e]
  exact join_S s _
theorem comma : (", " : Str) = S [44, 32] := by decide +kernel
theorem semi : ("; " : Str) = S [59, 32] := by decide +kernel
theorem blank : (" " : Str) = S [32] := by decide +kernel
theorem midIn : (" in " : Str) = S [32, 105, 110, 32] := by decide +kernel
theorem midBy : (" by " : Str) = S [32, 98, 121, 32] := by decide +kernel
theorem dash : ("-" : Str) = S [45] := by decide +kernel
/-- names, in a text -/
def lineOfNames (ns : List Str) : Str := if ns = [] then "-" else Txt.join ", " ns
def namesOf (t : Str) : Option (List Str) := if t = "-" then some [] else if (Txt.split t ", ").filter (fun z => !isName z) = [] then some (Txt.split t ", ") else none
/-- the signs in such a text -/
theorem lon_signs {ns : List Str} (h : ∀ z ∈ ns, isName z = true) : ∀ c ∈ tl (lineOfNames ns), c = 45 ∨ c = 44 ∨ c = 32 ∨ (97 ≤ c ∧ c ≤ 122) := by
  intro c hc
  unfold lineOfNames at hc
  split at hc
  · exact .inl (by revert hc; rw [dash]; simp [S, tl])
  · rw [comma, join_at] at hc
    rcases mem_joinL hc with h1 | ⟨p, h1, h2⟩
    · simp at h1; omega
    · obtain ⟨z, hz, rfl⟩ := List.mem_map.mp h1
      exact .inr (.inr (.inr ((isName_at (h z hz)).2.2 c h2)))
theorem lon_len {ns : List Str} (h : Nok ns) : (lineOfNames ns).length ≤ 641 := by
  unfold lineOfNames
  split
  · rw [dash]; decide
  · rw [comma, join_at, S_len]
    have h1 := joinL_le [44, 32] (ns.map tl)
    have h2 := sum_le (fun z : Str => z.length) 8 ns fun z hz => (isName_at (h.name z hz)).2.1
    have h3 : (ns.map tl).map (·.length) = ns.map (·.length) := by rw [List.map_map]; exact List.map_congr_left fun z _ => by simp [tl, Str.length]
    rw [h3, List.length_map] at h1
    have h4 := h.2
    have h5 : ([44, 32] : List Nat).length = 2 := rfl
    rw [h5] at h1
    have h6 : (ns.map (fun z : Str => z.length)).sum ≤ ns.length * 8 := h2
    omega
theorem namesOf_lon {ns : List Str} (h : ∀ z ∈ ns, isName z = true) : namesOf (lineOfNames ns) = some ns := by
  unfold namesOf
  by_cases e : ns = []
  · subst e
    exact if_pos (show lineOfNames [] = "-" from if_pos rfl)
  · have e0 : lineOfNames ns = S (TL.joinL [44, 32] (ns.map tl)) := by unfold lineOfNames; rw [if_neg e, comma, join_at]
    have hp : ∀ p ∈ ns.map tl, 44 ∉ p := fun p hp hc => by
      obtain ⟨z, hz, rfl⟩ := List.mem_map.mp hp
      have := (isName_at (h z hz)).2.2 44 hc
      omega
    have e1 : TL.spl [44, 32] 0 [] (TL.joinL [44, 32] (ns.map tl)) = ns.map tl := spl_join (by simpa using e) hp
    have e2 : Txt.split (lineOfNames ns) ", " = ns := by
      rw [e0, comma, split_S (by decide) (by decide), e1, List.map_map]
      exact (List.map_congr_left fun z _ => S_tl z).trans (List.map_id' ns)
    have e3 : ¬ lineOfNames ns = "-" := fun hh => by
      rw [e0, dash] at hh
      rw [S_inj hh] at e1
      have e4 : TL.spl [44, 32] 0 [] [45] = [[45]] := by decide
      rw [e4] at e1
      have : [45] ∈ ns.map tl := by rw [← e1]; exact List.mem_cons_self
      obtain ⟨z, hz, e5⟩ := List.mem_map.mp this
      have := (isName_at (h z hz)).2.2 45 (by rw [show z.cps.toList = [45] from e5]; exact List.mem_cons_self)
      omega
    have e6 : (Txt.split (lineOfNames ns) ", ").filter (fun z => !isName z) = [] := by
      rw [e2]
      exact filter_nil_iff.mpr fun z hz => by rw [h z hz]; rfl
    rw [if_neg e3, if_pos e6, e2]
/-- a line that may be told -/
def someLine (t : Ln) : Bool := decide (t.a = "call" ∨ t.a = "off") && (isAscending t.b && (!decide (t.b = []) && (isName t.c && decide (decide (t.c ∈ t.b) = decide (t.a = "call")))))
def LnGood (t : Ln) : Prop := someLine t = true ∧ t.b.length < 64
theorem LnGood.parts {t : Ln} (h : LnGood t) : (t.a = "call" ∨ t.a = "off") ∧ Nok t.b ∧ t.b = sortS t.b ∧ t.b ≠ [] ∧ isName t.c = true ∧ (t.c ∈ t.b ↔ t.a = "call") := by
  obtain ⟨h1, h2⟩ := h
  unfold someLine isAscending at h1
  simp only [Bool.and_eq_true, decide_eq_true_eq, Bool.not_eq_true', decide_eq_false_iff_not, decide_eq_decide] at h1
  exact ⟨h1.1, ⟨h1.2.1.1, h2⟩, h1.2.1.2, h1.2.2.1, h1.2.2.2.1, h1.2.2.2.2⟩
theorem word_zok {z : Str} (h : z = "call" ∨ z = "off") : Zok z ∧ z.length ≤ 4 ∧ ∀ c ∈ tl z, 97 ≤ c ∧ c ≤ 122 := by
  rcases h with rfl | rfl <;> exact ⟨⟨by decide +kernel, by decide +kernel⟩, by decide +kernel, by decide +kernel⟩
theorem LnGood.ok {t : Ln} (h : LnGood t) : LnOk t := ⟨(word_zok h.parts.1).1, h.parts.2.1.lok, isName_zok h.parts.2.2.2.2.1⟩
def midOf (w : Str) : Str := if decide (w = "call") = true then " in " else " by "
def textOfLine (t : Ln) : Str := t.a ++ " " ++ t.c ++ midOf t.a ++ lineOfNames t.b
theorem tol_at (t : Ln) : ∃ m : List Nat, midOf t.a = S (32 :: m) ∧ (m = [105, 110, 32] ∨ m = [98, 121, 32]) ∧ textOfLine t = S (tl t.a ++ ([32] ++ (tl t.c ++ (32 :: m ++ tl (lineOfNames t.b))))) := by
  unfold textOfLine midOf
  have k : ∀ m : List Nat, t.a ++ S [32] ++ t.c ++ S m ++ lineOfNames t.b = S (tl t.a ++ ([32] ++ (tl t.c ++ (m ++ tl (lineOfNames t.b))))) := fun m => by
    have h1 : t.a = S (tl t.a) := (S_tl _).symm
    have h2 : t.c = S (tl t.c) := (S_tl _).symm
    have h3 : lineOfNames t.b = S (tl (lineOfNames t.b)) := (S_tl _).symm
    rw [h1, h2, h3, S_cat, S_cat, S_cat, S_cat]
    simp only [List.append_assoc]
  split
  · exact ⟨[105, 110, 32], midIn, .inl rfl, by rw [blank, midIn]; exact k _⟩
  · exact ⟨[98, 121, 32], midBy, .inr rfl, by rw [blank, midBy]; exact k _⟩
theorem tol_par {t : Ln} (h : LnGood t) : ∃ r : Str, Txt.partition (textOfLine t) " " = (t.a, (" " : Str), r) ∧ Txt.partition r (midOf t.a) = (t.c, midOf t.a, lineOfNames t.b) := by
  obtain ⟨m, e1, e2, e3⟩ := tol_at t
  obtain ⟨h1, h2, h3, h4, h5, h6⟩ := h.parts
  refine ⟨S (tl t.c ++ (32 :: m ++ tl (lineOfNames t.b))), ?_, ?_⟩
  · rw [e3, blank, partition_some (p := tl t.a) (q := tl t.c ++ (32 :: m ++ tl (lineOfNames t.b))) (by decide) (par_head _ fun hc => by have := (word_zok h1).2.2 32 hc; omega), S_tl]
  · rw [e1, partition_some (p := tl t.c) (q := tl (lineOfNames t.b)) (List.cons_ne_nil _ _) (par_head _ fun hc => by have := (isName_at h5).2.2 32 hc; omega), S_tl, S_tl]
theorem mem_midL {m : List Nat} {c : Nat} (e2 : m = [105, 110, 32] ∨ m = [98, 121, 32]) (hc : c ∈ 32 :: m) : c = 32 ∨ (97 ≤ c ∧ c ≤ 122) := by
  rcases e2 with rfl | rfl <;> simp at hc <;> omega
theorem tol_signs {t : Ln} (h : LnGood t) : ∀ c ∈ tl (textOfLine t), c = 45 ∨ c = 44 ∨ c = 32 ∨ (97 ≤ c ∧ c ≤ 122) := by
  obtain ⟨m, e1, e2, e3⟩ := tol_at t
  obtain ⟨h1, h2, h3, h4, h5, h6⟩ := h.parts
  intro c hc
  rw [e3] at hc
  have hc : c ∈ tl t.a ++ ([32] ++ (tl t.c ++ (32 :: m ++ tl (lineOfNames t.b)))) := hc
  rw [List.mem_append, List.mem_append, List.mem_append, List.mem_append] at hc
  rcases hc with hc | hc | hc | hc | hc
  · exact .inr (.inr (.inr ((word_zok h1).2.2 c hc)))
  · simp at hc; omega
  · exact .inr (.inr (.inr ((isName_at h5).2.2 c hc)))
  · have := mem_midL e2 hc; omega
  · exact lon_signs h2.name c hc
theorem tol_len {t : Ln} (h : LnGood t) : (textOfLine t).length ≤ 659 := by
  obtain ⟨m, e1, e2, e3⟩ := tol_at t
  obtain ⟨h1, h2, h3, h4, h5, h6⟩ := h.parts
  have a1 := (word_zok h1).2.1
  have a2 := (isName_at h5).2.1
  have a3 := lon_len h2
  have a4 : m.length = 3 := by rcases e2 with rfl | rfl <;> rfl
  rw [e3, S_len]
  simp only [List.length_append, List.length_cons, List.length_nil]
  have b1 : (tl t.a).length = t.a.length := by simp [tl, Str.length]
  have b2 : (tl t.c).length = t.c.length := by simp [tl, Str.length]
  have b3 : (tl (lineOfNames t.b)).length = (lineOfNames t.b).length := by simp [tl, Str.length]
  omega
theorem semi_split {l : List Str} (hn : l ≠ []) (h : ∀ z ∈ l, ∀ c ∈ tl z, c = 45 ∨ c = 44 ∨ c = 32 ∨ (97 ≤ c ∧ c ≤ 122)) : Txt.split (Txt.join "; " l) "; " = l := by
  rw [semi, join_at, split_S (by decide) (by decide), spl_join (by simpa using hn) fun p hp hc => by
    obtain ⟨z, hz, rfl⟩ := List.mem_map.mp hp
    have := h z hz 59 hc
    omega]
  rw [List.map_map]
  exact (List.map_congr_left fun z _ => S_tl z).trans (List.map_id' l)
theorem semi_len {l : List Str} {b : Nat} (h : ∀ z ∈ l, z.length ≤ b) : (Txt.join "; " l).length ≤ l.length * (b + 2) := by
  rw [semi, join_at, S_len]
  have h1 := joinL_le [59, 32] (l.map tl)
  have h3 : (l.map tl).map (·.length) = l.map (·.length) := by rw [List.map_map]; exact List.map_congr_left fun z _ => by simp [tl, Str.length]
  rw [h3, List.length_map] at h1
  have h2 : (l.map (·.length)).sum ≤ l.length * b := sum_le (fun z : Str => z.length) b l h
  have h5 : ([59, 32] : List Nat).length = 2 := rfl
  rw [h5] at h1
  rw [Nat.mul_add]
  omega
/-! panels, books -/
def PanGood {C : Addr} (p : Pan C) : Prop := Nok p.names ∧ p.names = sortS p.names ∧ p.names ≠ [] ∧ p.orders ≠ [] ∧ p.orders.length < 64 ∧ ∀ r ∈ p.orders, r.Perm p.names
theorem PanGood.row {C : Addr} {p : Pan C} (h : PanGood p) {r : List Str} (hr : r ∈ p.orders) : Nok r ∧ r ≠ [] ∧ sortS r = p.names := by
  have hp := h.2.2.2.2.2 r hr
  refine ⟨⟨decide_eq_true ⟨fun z hz => h.1.name z (hp.mem_iff.mp hz), hp.nodup_iff.mpr h.1.nodup⟩, by rw [hp.length_eq]; exact h.1.2⟩, fun e => ?_, by rw [sortS_congr hp, ← h.2.1]⟩
  subst e
  exact h.2.2.1 (List.nil_perm.mp hp)
theorem PanGood.rok {C : Addr} {p : Pan C} (h : PanGood p) : Rok p.orders := ⟨fun r hr => (h.row hr).1.lok, Nat.lt_trans h.2.2.2.2.1 (by decide)⟩
theorem PanGood.ok {C : Addr} {p : Pan C} (h : PanGood p) : PanOk p := ⟨h.1.lok, h.rok⟩
theorem PanGood.pre {C : Addr} {p : Pan C} (h : PanGood p) : panPre p.names p.orders := by
  refine ⟨h.1.lok, ?_, h.rok, decide_eq_true fun r hr => ?_, h.2.2.2.1⟩
  · unfold areEntries
    rw [h.1.1, decide_eq_false h.2.2.1]
    rfl
  · unfold isRow
    rw [(h.row hr).1.1, (h.row hr).2.2, ← h.2.1]
    simp
def panelText {C : Addr} (p : Pan C) : Str := Txt.join "; " (p.orders.map lineOfNames)
theorem pan_split {C : Addr} {p : Pan C} (h : PanGood p) : Txt.split (panelText p) "; " = p.orders.map lineOfNames :=
  semi_split (by simpa using h.2.2.2.1) fun z hz => by
    obtain ⟨r, hr, rfl⟩ := List.mem_map.mp hz
    exact lon_signs (h.row hr).1.name
theorem pan_len {C : Addr} {p : Pan C} (h : PanGood p) : (panelText p).length ≤ 50000 := by
  have := semi_len (l := p.orders.map lineOfNames) (b := 641) fun z hz => by
    obtain ⟨r, hr, rfl⟩ := List.mem_map.mp hz
    exact lon_len (h.row hr).1
  rw [List.length_map] at this
  have h2 := h.2.2.2.2.1
  unfold panelText
  omega
theorem pan_rows {C : Addr} {p : Pan C} (h : PanGood p) : (p.orders.map lineOfNames).map namesOf = p.orders.map some := by
  rw [List.map_map]
  exact List.map_congr_left fun r hr => namesOf_lon (h.row hr).1.name
def panelOfText (C : Addr) (t : Str) : Option (Pan C) :=
  let rows := (Txt.split t "; ").map fun z => (namesOf z).getD []
  some ⟨sortS (rows.headD []), rows⟩
theorem getD_rows {α β : Type} {l : List α} {f : α → Str} {g : Str → Option β} {d : β} (k : α → β) (h : ∀ x ∈ l, g (f x) = some (k x)) : (l.map f).map (fun z => (g z).getD d) = l.map k := by
  rw [List.map_map]
  exact List.map_congr_left fun x hx => by show (g (f x)).getD d = k x; rw [h x hx]; rfl
theorem pan_back {C : Addr} {p : Pan C} (h : PanGood p) : panelOfText C (panelText p) = some p := by
  unfold panelOfText
  rw [pan_split h, getD_rows (fun r => r) fun r hr => namesOf_lon (h.row hr).1.name, List.map_id']
  obtain ⟨ns, os⟩ := p
  cases os with
  | nil => exact absurd rfl h.2.2.2.1
  | cons o r =>
    have := (h.row (r := o) List.mem_cons_self).2.2
    show some (Pan.mk (sortS o) (o :: r)) = _
    rw [this]
def lineOf (t : Str) : Option Ln :=
  let w := (Txt.partition t " ").1
  let r := Txt.partition (Txt.partition t " ").2.2 (midOf w)
  some ⟨w, (namesOf r.2.2).getD [], r.1⟩
theorem line_back {t : Ln} (h : LnGood t) : lineOf (textOfLine t) = some t := by
  obtain ⟨r, e1, e2⟩ := tol_par h
  unfold lineOf
  simp only [e1, e2, namesOf_lon h.parts.2.1.name]
  rfl
def BkGood {C : Addr} (b : Bk C) : Prop := Nok b.names ∧ b.names = sortS b.names ∧ b.names ≠ [] ∧ b.told.length < 1000 ∧ b.told = sortD b.told ∧ b.told.Nodup ∧ ∀ t ∈ b.told, LnGood t ∧ isLine t b.names = true
theorem BkGood.lns {C : Addr} {b : Bk C} (h : BkGood b) : LnsOk b.told := ⟨fun t ht => (h.2.2.2.2.2.2 t ht).1.ok, Nat.lt_trans h.2.2.2.1 (by decide)⟩
theorem BkGood.ok {C : Addr} {b : Bk C} (h : BkGood b) : BkOk b := ⟨h.1.lok, h.lns⟩
theorem BkGood.pre {C : Addr} {b : Bk C} (h : BkGood b) : bkPre b.names b.told := by
  refine ⟨h.1.lok, ?_, h.lns, decide_eq_true fun t ht => (h.2.2.2.2.2.2 t ht).2⟩
  unfold areEntries
  rw [h.1.1, decide_eq_false h.2.2.1]
  rfl
theorem BkGood.made {C : Addr} {b : Bk C} (h : BkGood b) : (mkBk b.names b.told : Bk C) = b := by
  unfold mkBk
  rw [← h.2.1, ← h.2.2.2.2.1, dedup_id h.2.2.2.2.2.1]
def bookText {C : Addr} (b : Bk C) : Str := Txt.join "; " ([lineOfNames b.names] ++ b.told.map textOfLine)
theorem bk_split {C : Addr} {b : Bk C} (h : BkGood b) : Txt.split (bookText b) "; " = lineOfNames b.names :: b.told.map textOfLine :=
  semi_split (List.cons_ne_nil _ _) fun z hz => by
    rcases List.mem_cons.mp hz with rfl | hz
    · exact lon_signs h.1.name
    · obtain ⟨t, ht, rfl⟩ := List.mem_map.mp hz
      exact tol_signs (h.2.2.2.2.2.2 t ht).1
theorem bk_len {C : Addr} {b : Bk C} (h : BkGood b) : (bookText b).length ≤ 700000 := by
  have := semi_len (l := lineOfNames b.names :: b.told.map textOfLine) (b := 659) fun z hz => by
    rcases List.mem_cons.mp hz with rfl | hz
    · have := lon_len h.1; omega
    · obtain ⟨t, ht, rfl⟩ := List.mem_map.mp hz
      exact tol_len (h.2.2.2.2.2.2 t ht).1
  rw [List.length_cons, List.length_map] at this
  have h2 := h.2.2.2.1
  show (Txt.join "; " (lineOfNames b.names :: b.told.map textOfLine)).length ≤ 700000
  omega
def bookOfText (C : Addr) (t : Str) : Option (Bk C) :=
  some ⟨(namesOf ((Txt.split t "; ").headD "")).getD [], ((Txt.split t "; ").drop 1).map fun z => (lineOf z).getD ⟨"", [], ""⟩⟩
theorem bk_back {C : Addr} {b : Bk C} (h : BkGood b) : bookOfText C (bookText b) = some b := by
  unfold bookOfText
  rw [bk_split h]
  show some (Bk.mk ((namesOf (lineOfNames b.names)).getD []) ((b.told.map textOfLine).map fun z => (lineOf z).getD ⟨"", [], ""⟩)) = _
  rw [namesOf_lon h.1.name, getD_rows (fun r => r) fun t ht => line_back (h.2.2.2.2.2.2 t ht).1, List.map_id']
  rfl
end T82

namespace T82
open PySem L2 D1 Rp
/-! ### the purse -/
/-- the numbers of a purse, of which at most b have been drawn by mixing -/
def PurseL (xs : List Int) (b : Int) : Prop := ∃ a s n t : Int, xs = [a, s, n, t] ∧ 0 ≤ n ∧ n ≤ b
def Purse (q : Addr) (b : Int) (G H : Hp) : Prop := G q = none ∧ ∃ xs : List Int, H q = some (.lst (xs.map V.int)) ∧ PurseL xs b
theorem Purse.le {q : Addr} {b b' : Int} {G H : Hp} (h : Purse q b G H) (hb : b ≤ b') : Purse q b' G H := by
  obtain ⟨h1, xs, h2, a, s, n, t, h3, h4, h5⟩ := h
  exact ⟨h1, xs, h2, a, s, n, t, h3, h4, by omega⟩
theorem Purse.gr {q : Addr} {b : Int} {G H G' H' : Hp} (h : Purse q b G H) (g : Gr G H G' H') : Purse q b G' H' := by
  obtain ⟨h1, xs, h2, h3⟩ := h
  exact ⟨g.f q h1 (by rw [h2]; exact fun z => nomatch z), xs, g.hh _ _ h2, h3⟩
theorem Purse.grM {q : Addr} {b : Int} {M : Addr → Prop} {G H G' H' : Hp} (h : Purse q b G H) (g : GrM M G H G' H') (hm : ¬ M q) : Purse q b G' H' := by
  obtain ⟨h1, xs, h2, h3⟩ := h
  exact ⟨g.f q h1 (by rw [h2]; exact fun z => nomatch z), xs, g.h _ _ hm h2, h3⟩
theorem Purse.some {q : Addr} {b : Int} {G H : Hp} (h : Purse q b G H) : ¬ H q = none := by
  obtain ⟨h1, xs, h2, h3⟩ := h
  rw [h2]
  exact fun z => nomatch z
abbrev Mq (q : Addr) : Addr → Prop := fun z => z = q
theorem rp_ints {G : Hp} {q : Addr} {xs : List Int} : rp (upd G q (.lst (xs.map V.int))) (.ref q) xs := ⟨q, _, rfl, upd_same, ints_to xs⟩
/-- a display, kept apart from what stands -/
theorem we_lstM {α : Type} [Rp α] {X : Cx} {σ : St} {G H : Hp} {pos : Pos} {es : List Expr} {xs : List α} {Q : VK} (s : Same G H) (t : EL X es σ G xs) (k : ∀ G2 H2 vs q, Gr G H G2 H2 → H2 q = none → Paired (rp G2) vs xs → Q (.ref q) (upd H2 q (.lst vs))) (hz : xs.length ≤ 1000 := by decide) : WE X (.List es pos) σ H Q :=
  WE.of (pe_lst (t := fun σ' H' Q' => ∀ pos pins s, Inv X pins σ' H' s → wpAny (model X.prog X.w) X.A (spliced (backTo pos (starEach es X.env))) (AP X pins σ' Q') X.xe s) ⟨fun pos pins s σ H Q I h => h pos pins s I⟩)
    (t G H _ (Same.refl _) s fun G2 H2 vs g r => ⟨by rw [r.length]; exact small_sz hz, fun q hq => k G2 H2 vs q g hq r⟩)
def mixed1 (m : Int) : Int := m * m + 40503
def mixedOf (s t a : Int) : Int := mixed1 ((s * 69069 + 104729 * t * t + 7919 * a + t) % 2147483647) % 2147483629 * 48271 % 2147483587
/-- what _law_draw asks and tells -/
def PDraw : Sp := fun vs H Q _ => ∃ G q m b, vs = [.ref q, .int m] ∧ Same G H ∧ Purse q b G H ∧ 1 ≤ m ∧ m < 2 ^ 27 ∧ b < 2 ^ 40 ∧ ∀ G' H' r, GrM (Mq q) G H G' H' → Purse q (b + 1) G' H' → 0 ≤ r → r < m → Q (.int r) H'
def PNew (K : PySem.W.Frag) : Sp := fun vs H Q _ => ∃ G u, ∃ sc : Scr K, ∃ i : Int, vs = [u, .int i] ∧ Same G H ∧ rp G u sc ∧ ∀ G' H' q, Gr G H G' H' → H q = none → ¬ H' q = none → Purse q 0 G' H' → Q (.ref q) H'
section
variable {P : Program} {w : World} {K : PySem.W.Frag} {mg : Str → Option Value} {base : Heap} {f C : Addr} {fd : FuncData}
theorem c_law_purse (D : C8.Def K mg "_law_purse" sLawPurse f fd) (b : Binds K fd ["script", "at"] []) (B : Bt mg) : C8.Cal P w K mg base 1 "_law_purse" (PNew K) [] := by
  refine C8.cal0 D b .nil scLawPurse (fun vs H Q E h => ?_) fun cdv A outer s H vs Q E hr h => ?_
  · obtain ⟨G, u, sc, i, rfl, _⟩ := h
    rfl
  · obtain ⟨G, u, sc, i, rfl, sG, r, kk⟩ := h
    refine ⟨_, pss_ws, ?_⟩
    refine ws_asg 2 (Same.refl G) sG (Ev.sumI B (Ev.sl2Q (Ev.v 0 rfl r) (Ev.v 1 rfl (show rp G (.int i) i from rfl)) (Ev.add (Ev.v 1 rfl (show rp G (.int i) i from rfl)) Ev.int))) (fun G2 H2 v g rv => ?_) scLawPurse.nd
    cases rv
    refine ws_retW (we_lstM (xs := [_, _, _, _]) g.s (EL.cons (Ev.mod (Ev.max2 B (Ev.sub (Ev.v 2 rfl rfl) (Ev.pow Ev.int Ev.int ⟨by decide, by decide⟩)) Ev.int) (Ev.pow (Ev.pow Ev.int Ev.int ⟨by decide, by decide⟩) Ev.int ⟨by decide, by decide +kernel⟩) (by decide +kernel)) (EL.cons (Ev.mod (Ev.v 2 rfl rfl) Ev.int (by decide)) (EL.cons Ev.int (EL.cons (Ev.v 1 rfl rfl) EL.nil)))) (fun G3 H3 vs q g3 hq pr => ?_) (show 4 ≤ 1000 by decide))
    have e1 := ints_of pr
    subst e1
    have gg := g.trans g3
    exact kk G3 _ q (gg.trans (Gr.newM gg.s hq)) (gg.fresh hq) (by rw [upd_same]; exact fun z => nomatch z) ⟨gg.s.free hq, _, upd_same, _, _, _, _, rfl, by decide, by decide⟩
theorem c_law_mixed (D : C8.Def K mg "_law_mixed" sLawMixed f fd) (b : Binds K fd ["seed", "turn", "at"] []) : C8.Cal P w K mg base 1 "_law_mixed" (P3 (fun _ t _ => -(2 ^ 64) < t ∧ t < 2 ^ 64) mixedOf) [] := by
  refine fn3 D b scLawMixed rfl fun cdv A outer s H E G u v x i t a hr r1 r2 r3 h => ?_
  have c1 : ∀ x : Int, CMul x 69069 := fun x => .inr ⟨by decide, by decide⟩
  have c2 : ∀ x : Int, CMul 104729 x := fun x => .inl ⟨by decide, by decide⟩
  have c3 : ∀ x : Int, CMul 7919 x := fun x => .inl ⟨by decide, by decide⟩
  have c4 : ∀ x : Int, CMul x 48271 := fun x => .inr ⟨by decide, by decide⟩
  have c5 : ∀ x : Int, CMul (x % 2147483647) (x % 2147483647) := fun x => by
    have h1 := Int.emod_nonneg x (show (2147483647 : Int) ≠ 0 by decide)
    have h2 := Int.emod_lt_of_pos x (show (0 : Int) < 2147483647 by decide)
    exact .inr ⟨by omega, by omega⟩
  refine Bl.asg 3 (Ev.add (Ev.mul (Ev.v 0 rfl r1) Ev.int (c1 _)) (Ev.mul (Ev.mul Ev.int (Ev.v 1 rfl r2) (c2 _)) (Ev.v 1 rfl r2) (.inr h))) (fun G1 v1 s1 q1 => ?_) scLawMixed.nd
  refine Bl.asg 3 (Ev.mod (Ev.add (Ev.add (Ev.v 3 rfl q1) (Ev.mul Ev.int (Ev.v 2 rfl (rup s1 r3)) (c3 _))) (Ev.v 1 rfl (rup s1 r2))) Ev.int (by decide)) (fun G2 v2 s2 q2 => ?_) scLawMixed.nd
  refine Bl.asg 3 (Ev.mod (Ev.add (Ev.mul (Ev.v 3 rfl q2) (Ev.v 3 rfl q2) (c5 _)) Ev.int) Ev.int (by decide)) (fun G3 v3 s3 q3 => ?_) scLawMixed.nd
  exact Bl.rv (Ev.mod (Ev.mul (Ev.v 3 rfl q3) Ev.int (c4 _)) Ev.int (by decide))
theorem bits_few {m : Int} (h : 1 ≤ m) (h2 : m < 2 ^ 27) : ((Builtin.Int.intBits m : Nat) : Int) / 28 = 0 := by
  have h3 : m.natAbs < 2 ^ 27 := by omega
  have h4 := PySem.Flt.log2_lt_of (show 0 < 27 by decide) h3
  unfold Builtin.Int.intBits
  split <;> omega
theorem c_law_draw (D : C8.Def K mg "_law_draw" sLawDraw f fd) (b : Binds K fd ["purse", "many"] []) (B : Bt mg) (cM : C8.Cal P w K mg base 1 "_law_mixed" (P3 (fun _ t _ => -(2 ^ 64) < t ∧ t < 2 ^ 64) mixedOf) []) : C8.Cal P w K mg base 2 "_law_draw" PDraw [] := by
  refine C8.cal0 D b .nil scLawDraw (fun vs H Q E h => ?_) fun cdv A outer s H vs Q E hr h => ?_
  · obtain ⟨G, q, m, b', rfl, _⟩ := h
    rfl
  · obtain ⟨G, q, m, b', rfl, sG, ⟨hq, xs, hxs, a, sd, n, t, rfl, hn0, hnb⟩, hm1, hm2, hb, kk⟩ := h
    refine ⟨_, pss_ws, ?_⟩
    have mm : ∀ G : Hp, rp G (.int m) m := fun _ => rfl
    refine ws_ifW (ET.borrow sG hq hxs (ET.gt (Ev.ixL (i := 0) (d := a) (Ev.v 0 rfl rp_ints) Ev.int (by rfl)) Ev.int) fun G2 H2 g2 n2 => ?_)
    have hx2 := g2.hh _ _ hxs
    by_cases ha : 0 < a
    · rw [show decide (a > 0) = true from decide_eq_true ha]
      refine iteT ?_
      refine ws_asgW 2 (Ev.borrow g2.s n2 hx2 (Ev.mod (Ev.ixL (i := 0) (d := a) (Ev.v 0 rfl rp_ints) Ev.int (by rfl)) (Ev.v 1 rfl (mm _)) (by omega)) fun G3 H3 v3 g3 n3 r3 => ?_) scLawDraw.nd
      cases r3
      have hx3 := g3.hh _ _ hx2
      refine ws_put 0 (Ev.borrow g3.s n3 hx3 (Ev.fdiv (Ev.ixL (i := 0) (d := a) (Ev.v 0 rfl rp_ints) Ev.int (by rfl)) (Ev.v 1 rfl (mm _)) ⟨by omega, by omega⟩) fun G4 H4 v4 g4 n4 r4 => ?_)
      cases r4
      have hx4 := g4.hh _ _ hx3
      refine ⟨q, _, 0, rfl, hx4, rfl, ?_⟩
      have gp : GrM (Mq q) G4 H4 G4 (upd H4 q (.lst ([a / m, sd, n, t].map V.int))) := GrM.put g4.s n4 rfl
      refine ws_retW (we_v 2 rfl ?_)
      refine kk G4 _ _ (((g2.trans g3).trans g4).any.trans gp) ⟨n4, _, upd_same, _, _, _, _, rfl, hn0, by omega⟩ (Int.emod_nonneg _ (by omega)) (Int.emod_lt_of_pos _ (by omega))
    · rw [show decide (a > 0) = false from decide_eq_false ha]
      refine iteF (ws_nil ?_)
      refine ws_asg 3 (Same.refl G2) g2.s Ev.int (fun G3 H3 v3 g3 r3 => ?_) scLawDraw.nd
      cases r3
      have hx3 := g3.hh _ _ hx2
      have n3 := g3.f q n2 (by rw [hx2]; exact fun z => nomatch z)
      refine ws_for (fun i σ' G' H' => ∃ fo pc, ∃ y : Int, σ' = [some (.ref q), some (.int m), none, some (.int fo), pc] ∧ GrM (Mq q) G H G' H' ∧ G' q = none ∧ H' q = some (.lst ([a, sd, y, t].map V.int)) ∧ 0 ≤ y ∧ y ≤ b' + i)
        (G := G3) (Same.refl _) g3.s (EI.range1 B.range (Ev.eq (Ev.add Ev.int (Ev.fdiv (Ev.bits (Ev.v 1 rfl (mm _))) Ev.int ⟨by decide, by decide⟩)) (show _ = (1 : Int) by rw [bits_few hm1 hm2]; rfl)) (by decide)) tgB1 (pg_name (i := 4) scLawDraw.nd rfl (Or.inl rfl))
        (fun G4 H4 g4 => ⟨0, none, n, rfl, ((g2.trans g3).trans g4).any, g4.f q n3 (by rw [hx3]; exact fun z => nomatch z), g4.hh _ _ hx3, hn0, by omega⟩) ?_ ?_ PassesOwn.never
      · rintro i c σ1 G4 H4 hc s34 s44 ⟨fo, pc, y, rfl, gA, nq, hy, y0, y1⟩ G5 H5 σ2 g5 ⟨lw, rl, rfl⟩
        have hi : i < 1 := by
          have := List.getElem?_eq_some_iff.mp hc
          obtain ⟨h1, _⟩ := this
          simpa [upto] using h1
        have n5 := g5.f q nq (by rw [hy]; exact fun z => nomatch z)
        have hy5 := g5.hh _ _ hy
        refine ws_put 0 (Ev.borrow g5.s n5 hy5 (Ev.add (Ev.ixL (i := 2) (d := y) (Ev.v 0 rfl rp_ints) Ev.int (by rfl)) Ev.int) fun G6 H6 v6 g6 n6 r6 => ?_)
        cases r6
        have hy6 := g6.hh _ _ hy5
        refine ⟨q, _, 2, rfl, hy6, rfl, ?_⟩
        have gp : GrM (Mq q) G6 H6 G6 (upd H6 q (.lst ([a, sd, y + 1, t].map V.int))) := GrM.put g6.s n6 rfl
        refine ws_asgW 3 (Ev.borrow (o := .lst ([a, sd, y + 1, t].map V.int)) gp.s n6 upd_same (Ev.add (Ev.mul (Ev.v 3 rfl (show rp _ (.int fo) fo from rfl)) Ev.int (.inr ⟨by decide, by decide⟩)) (Ev.call3 cM hr (Ev.ixL (i := 1) (d := sd) (Ev.v 0 rfl rp_ints) Ev.int (by rfl)) (Ev.ixL (i := 2) (d := y + 1) (Ev.v 0 rfl rp_ints) Ev.int (by rfl)) (Ev.ixL (i := 3) (d := t) (Ev.v 0 rfl rp_ints) Ev.int (by rfl)) ⟨by omega, by omega⟩)) fun G7 H7 v7 g7 n7 r7 => ?_) scLawDraw.nd
        cases r7
        refine ws_nil ⟨G7, g6.g.trans g7.g, g7.s, _, some lw, y + 1, rfl, ((gA.trans (g5.trans g6).any).trans gp).trans g7.any, n7, g7.hh _ _ upd_same, by omega, by omega⟩
      · rintro σ1 G4 H4 s34 s44 ⟨fo, pc, y, rfl, gA, nq, hy, y0, y1⟩
        refine ws_retW (Ev.ap s44 (Ev.mod (Ev.v 3 rfl (show rp _ (.int fo) fo from rfl)) (Ev.v 1 rfl (mm _)) (by omega)) fun G5 H5 v5 g5 r5 => ?_)
        cases r5
        refine kk G5 H5 _ (gA.trans g5.any) ⟨g5.f q nq (by rw [hy]; exact fun z => nomatch z), _, g5.hh _ _ hy, _, _, _, _, rfl, y0, ?_⟩ (Int.emod_nonneg _ (by omega)) (Int.emod_lt_of_pos _ (by omega))
        have : ((upto (1 : Int).toNat).length : Int) = 1 := rfl
        omega
end
end T82

namespace T82
open PySem L2 D1 Rp
/-! ### what is drawn -/
def PPurses (K : PySem.W.Frag) : Sp := fun vs H Q _ => ∃ G u, ∃ sc : Scr K, ∃ n : Nat, vs = [u, .int (n : Int)] ∧ Same G H ∧ rp G u sc ∧ 1 ≤ n ∧ n < 1000 ∧ ∀ G' H' w (qs : List Adr), Gr G H G' H' → rp G' w qs → qs.Nodup → qs.length ≤ n → (∀ q ∈ qs, H q.p = none ∧ Purse q.p 0 G' H') → Q w H'
def PShuf (α : Type) [Rp α] : Sp := fun vs H Q _ => ∃ G q v, ∃ l : List α, ∃ b : Int, vs = [.ref q, v] ∧ Same G H ∧ Purse q b G H ∧ rp G v l ∧ l.length < 1000 ∧ b < 2 ^ 38 ∧ ∀ G' H' w (l' : List α), GrM (Mq q) G H G' H' → Purse q (b + (l.length : Nat)) G' H' → l'.Perm l → rp G' w l' → Q w H'
def PWord : Sp := fun vs H Q _ => ∃ G q, ∃ b : Int, vs = [.ref q] ∧ Same G H ∧ Purse q b G H ∧ b < 2 ^ 38 ∧ ∀ G' H' z, GrM (Mq q) G H G' H' → Purse q (b + 9) G' H' → isName z = true → Q (.str z) H'
def PWords : Sp := fun vs H Q _ => ∃ G q, ∃ n : Nat, ∃ b : Int, vs = [.ref q, .int (n : Int)] ∧ Same G H ∧ Purse q b G H ∧ n ≤ 8 ∧ b < 2 ^ 37 ∧ ∀ G' H' w (l : List Str), GrM (Mq q) G H G' H' → Purse q (b + 18) G' H' → l.length = n → SortedS l → l.Nodup → (∀ z ∈ l, isName z = true) → rp G' w l → Q w H'
theorem Purse.off {q p : Addr} {b : Int} {o : HO} {G H : Hp} (h : Purse q b G H) (hp : q ≠ p) : Purse q b G (upd H p o) := by
  obtain ⟨h1, xs, h2, h3⟩ := h
  exact ⟨h1, xs, by rw [upd_ne hp]; exact h2, h3⟩
theorem Purse.up {q : Addr} {b : Int} {o : HO} {p : Addr} {G H : Hp} (h : Purse q b G H) (hp : q ≠ p) : Purse q b (upd G p o) H := by
  obtain ⟨h1, xs, h2, h3⟩ := h
  exact ⟨by rw [upd_ne hp]; exact h1, xs, h2, h3⟩
theorem perm_insert {α : Type} {l m : List α} {c : α} (n : Nat) (h : l.Perm m) : (l.take n ++ [c] ++ l.drop n).Perm (m ++ [c]) := by
  have h1 : (l.take n ++ [c] ++ l.drop n).Perm (l ++ [c]) := by
    have e : l ++ [c] = l.take n ++ (l.drop n ++ [c]) := by rw [← List.append_assoc, List.take_append_drop]
    rw [e, List.append_assoc]
    exact List.Perm.append_left _ (List.perm_append_comm)
  exact h1.trans (h.append_right _)
theorem take_snoc {α : Type} {l : List α} {i : Nat} {c : α} (h : l[i]? = some c) : l.take (i + 1) = l.take i ++ [c] := by rw [List.take_succ, h]; rfl
section
variable {P : Program} {w : World} {K : PySem.W.Frag} {mg : Str → Option Value} {base : Heap} {f C : Addr} {fd : FuncData}
theorem c_purses (D : C8.Def K mg "_law_purses" sLawPurses f fd) (b : Binds K fd ["script", "few"] []) (B : Bt mg) (cN : C8.Cal P w K mg base 1 "_law_purse" (PNew K) []) : C8.Cal P w K mg base 2 "_law_purses" (PPurses K) [] := by
  refine C8.cal0 D b .nil scLawPurses (fun vs H Q E h => ?_) fun cdv A outer s H vs Q E hr h => ?_
  · obtain ⟨G, u, sc, n, rfl, _⟩ := h
    rfl
  · obtain ⟨G, u, sc, n, rfl, sG, r, hn, hn2, kk⟩ := h
    refine ⟨_, pss_ws, ?_⟩
    have hv : ∃ m : Nat, ((m : Int) = if (if ((sc.l.length : Nat) : Int) < (n : Int) then ((sc.l.length : Nat) : Int) else (n : Int)) > 1 then (if ((sc.l.length : Nat) : Int) < (n : Int) then ((sc.l.length : Nat) : Int) else (n : Int)) else 1) ∧ m ≤ n := by
      have hx : ∀ x : Int, x = (if ((sc.l.length : Nat) : Int) < (n : Int) then ((sc.l.length : Nat) : Int) else (n : Int)) → 0 ≤ x ∧ x ≤ n := fun x e => by
        split at e <;> omega
      generalize hxe : (if ((sc.l.length : Nat) : Int) < (n : Int) then ((sc.l.length : Nat) : Int) else (n : Int)) = x
      have hx2 := hx x hxe.symm
      refine ⟨Int.toNat (if x > 1 then x else 1), ?_, ?_⟩ <;> split <;> omega
    obtain ⟨m, hm, hmn⟩ := hv
    refine ws_retW (we_lcI (own := [("at", 2)]) (l := upto (m : Int).toNat) (fun D i acc G' H' => Gr G H G' H' ∧ ∃ qs : List Adr, acc = qs.map (fun a => V.ref a.p) ∧ qs.Nodup ∧ qs.length = i ∧ ∀ q ∈ qs, H q.p = none ∧ q.p ≠ D ∧ Purse q.p 0 G' H')
      (Same.refl G) sG (EI.range1 B.range (Ev.eq (Ev.max2 B Ev.int (Ev.min2 B (Ev.v 1 rfl (show rp _ (.int (n : Int)) (n : Int) from rfl)) (Ev.lenQ B (Ev.v 0 rfl r)))) hm.symm) ⟨by omega, by omega⟩) (tgB1 (i := 2)) (fun s H C cl fp => pg_name scLawPurses.nd rfl (Or.inl rfl) (Or.inr rfl))
      (fun G2 H2 D g2 hD => ⟨g2.trans (Gr.newM g2.s hD), [], rfl, List.nodup_nil, rfl, fun q hq => by cases hq⟩) ?_ ?_ (fun _ _ _ b => wipe_b1 b) (fun c G' G'' σ1 σ' s1 b => by obtain ⟨v, r, e⟩ := b; exact ⟨v, rup s1 r, e⟩) (by simp [upto]; exact Nat.lt_of_le_of_lt hmn (Nat.lt_trans hn2 (by decide))) scLawPurses.nd (blkOk_by (N := nLawPurses) (sc := C8.fnScope sLawPurses) (by decide +kernel)))
    · rintro D i c acc G2 H2 hc s12 s22 gD hacc hlen hD1 ⟨gA, qs, rfl, hnd, hql, hq⟩ G3 H3 σ' g3 ⟨v, rv, rfl⟩ s0 H0 C cl fp
      cases rv
      refine we_call2 cN hr (we_v 0 rfl (we_v 2 rfl ?_))
      have g03 := gA.trans g3
      have gD3 := g3.f D gD (by rw [hacc]; exact fun z => nomatch z)
      have hD3 := g3.hh _ _ hacc
      refine ⟨G3, u, sc, c, rfl, g3.s, rup g03.g r, fun G4 H4 q g4 hq3 hq4 pq => ?_⟩
      have g04 := g03.trans g4
      have gD4 := g4.f D gD3 (by rw [hD3]; exact fun z => nomatch z)
      have hD4 := g4.hh _ _ hD3
      have qD : q ≠ D := fun e => by subst e; rw [hD3] at hq3; cases hq3
      refine ⟨G4, g4.g, g4.s, gD4, hD4, g04.off hD1 gD4, qs ++ [⟨q⟩], by rw [List.map_append]; rfl, ?_, by rw [List.length_append, hql]; rfl, fun q' hq' => ?_⟩
      · refine List.nodup_append.mpr ⟨hnd, by simp, fun x hx y hy e => ?_⟩
        rw [List.mem_singleton] at hy
        subst hy
        subst e
        exact (((hq _ hx).2.2).gr g3).some hq3
      · rcases List.mem_append.mp hq' with hq' | hq'
        · exact ⟨(hq q' hq').1, (hq q' hq').2.1, (((hq q' hq').2.2.gr g3).gr g4).off (hq q' hq').2.1⟩
        · rw [List.mem_singleton] at hq'
          subst hq'
          exact ⟨gA.fresh (g3.fresh hq3), qD, pq.off qD⟩
    · rintro D acc G2 H2 s12 s22 gD hacc hD1 ⟨gA, qs, rfl, hnd, hql, hq⟩
      have hlen : qs.length ≤ n := by
        rw [hql]; simp [upto]; exact hmn
      exact kk (upd G2 D (.lst (qs.map fun a => V.ref a.p))) H2 _ qs (gA.promote hD1 gD hacc) ⟨D, _, rfl, upd_same, refs_to qs⟩ hnd hlen fun q hq' => ⟨(hq q hq').1, (hq q hq').2.2.up (hq q hq').2.1⟩
theorem c_shuffled {α : Type} [Rp α] (D : C8.Def K mg "_law_shuffled" sLawShuffled f fd) (b : Binds K fd ["purse", "some"] []) (B : Bt mg) (cD : C8.Cal P w K mg base 2 "_law_draw" PDraw []) : C8.Cal P w K mg base 3 "_law_shuffled" (PShuf α) [] := by
  refine C8.cal0 D b .nil scLawShuffled (fun vs H Q E h => ?_) fun cdv A outer s H vs Q E hr h => ?_
  · obtain ⟨G, q, v, l, b', rfl, _⟩ := h
    rfl
  · obtain ⟨G, q, v, l, b', rfl, sG, pq, r, hl, hb, kk⟩ := h
    refine ⟨_, pss_ws, ?_⟩
    refine ws_asgW 2 (we_lstM (xs := ([] : List α)) sG EL.nil (fun G1 H1 vs fo g1 hfo pr => ?_) (show 0 ≤ 1000 by decide)) scLawShuffled.nd
    cases pr
    have hfo0 := g1.fresh hfo
    have pq1 := pq.gr g1
    have qfo : q ≠ fo := fun e => by subst e; exact pq.some hfo0
    have gfo1 := g1.s.free hfo
    have g1' := g1.trans (Gr.newM (o := .lst []) g1.s hfo)
    refine ws_for (fun i σ' G' H' => ∃ acc it, ∃ l' : List α, σ' = [some (.ref q), some v, some (.ref fo), it] ∧ GrM (Mq q) G H G' H' ∧ Purse q (b' + (i : Nat)) G' H' ∧ G' fo = none ∧ H' fo = some (.lst acc) ∧ Paired (rp G') acc l' ∧ l'.Perm (l.take i))
      (G := G1) (Same.refl _) g1'.s (EI.list (Ev.v 1 rfl (rup g1.g r))) tgB1 (pg_name (i := 3) scLawShuffled.nd rfl (Or.inl rfl))
      (fun G2 H2 g2 => ⟨[], none, [], rfl, (g1'.trans g2).any, ((pq1.off qfo).gr g2).le (by omega), g2.f fo gfo1 (by rw [upd_same]; exact fun z => nomatch z), g2.hh _ _ upd_same, .nil, by rw [List.take_zero]⟩) ?_ ?_ PassesOwn.never
    · rintro i c σ1 G2 H2 hc s12 s22 ⟨acc, it, l', rfl, gA, p2, nf, hf, pr, pm⟩ G3 H3 σ2 g3 ⟨lw, rl, rfl⟩
      have nf3 := g3.f fo nf (by rw [hf]; exact fun z => nomatch z)
      have hf3 := g3.hh _ _ hf
      have pr3 : Paired (rp G3) acc l' := pmono pr fun _ _ => rup g3.g
      have hi : i < l.length := (List.getElem?_eq_some_iff.mp hc).1
      have hl' : l'.length = i := by rw [pm.length_eq, List.length_take]; omega
      have ha : acc.length = i := pr.length.trans hl'
      refine ws_exprW (WE.of (pe_bm PySem.F.plainAttrs_list PySem.F.slot_list_insert PySem.F.type_list_insert mt_insert (pv 2) (pa_cons pe_we (pa_cons pe_we pa_nil))) ?_)
      refine ⟨.ref fo, rfl, .inl ⟨rfl, _, SqL.of hf3⟩, ?_⟩
      refine we_call2 cD hr (we_v 0 rfl (Ev.borrow g3.s nf3 hf3 (Ev.add (Ev.lenL (l := l') B (Ev.v 2 rfl ⟨fo, acc, rfl, upd_same, pmono pr3 fun _ _ => rup (same_new nf3)⟩)) Ev.int) fun G4 H4 u4 g4 n4 r4 => ?_))
      cases r4
      refine ⟨G4, q, _, _, rfl, g4.s, (p2.gr g3).gr g4, by omega, by omega, by omega, fun G5 H5 x g5 p5 hx0 hx1 => ?_⟩
      refine we_v 3 rfl ?_
      have hf5 : H5 fo = some (.lst acc) := g5.h fo _ (fun e => qfo e.symm) (g4.hh _ _ hf3)
      have nf5 := g5.f fo n4 (by rw [g4.hh _ _ hf3]; exact fun z => nomatch z)
      refine ⟨fo, acc, x, lw, rfl, rfl, hf5, by rw [ha]; exact Nat.lt_trans (Nat.lt_trans hi hl) (by decide), hx0, by omega, ?_⟩
      have gB : GrM (Mq q) G H G5 H5 := (gA.trans (g3.trans g4).any).trans g5
      refine ws_nil ⟨G5, (g4.g.trans g5.g), (gB.off hfo0 nf5).s, _, some lw, l'.take x.toNat ++ [c] ++ l'.drop x.toNat, rfl, gB.off hfo0 nf5, (p5.off qfo).le (by omega), nf5, upd_same, ?_, ?_⟩
      · have s35 := g4.g.trans g5.g
        have pr5 : Paired (rp G5) acc l' := pmono pr3 fun _ _ => rup s35
        refine r2_cat.PairedAppend (r2_cat.PairedAppend ?_ (.cons (rup s35 rl) .nil)) ?_
        · have := cutV_pair pr5 0 x.toNat
          simpa using this
        · have := cutV_pair pr5 x.toNat (acc.length)
          have e1 : (acc.drop x.toNat).take acc.length = acc.drop x.toNat := List.take_of_length_le (by rw [List.length_drop]; omega)
          have e2 : (l'.drop x.toNat).take acc.length = l'.drop x.toNat := List.take_of_length_le (by rw [List.length_drop]; omega)
          rwa [e1, e2] at this
      · rw [take_snoc hc]
        exact perm_insert _ pm
    · rintro σ1 G2 H2 s12 s22 ⟨acc, it, l', rfl, gA, p2, nf, hf, pr, pm⟩
      rw [List.take_length] at pm
      refine ws_retW (we_v 2 rfl ?_)
      exact kk (upd G2 fo (.lst acc)) H2 _ l' (gA.promote hfo0 nf hf) (p2.up qfo) pm ⟨fo, acc, rfl, upd_same, pmono pr fun _ _ => rup (same_new nf)⟩
end
end T82

namespace T82
open PySem L2 D1 Rp
/-! ### words -/
open SX
abbrev W8 : List Str := ["ale", "bun", "cob", "a", "zz", "egg", "marrows", "jam"]
theorem w8_names : ∀ z ∈ W8, isName z = true := by decide +kernel
theorem w8_nodup : W8.Nodup := by decide +kernel
theorem len_cat (x y : Str) : (x ++ y).length = x.length + y.length := by
  have h1 : x = S (tl x) := (S_tl _).symm
  have h2 : y = S (tl y) := (S_tl _).symm
  rw [h1, h2, S_cat, S_len, S_len, S_len, List.length_append]
/-- the letters that make a word -/
def isPart (z : Str) (n : Nat) : Prop := z.length = n ∧ ∀ c ∈ tl z, c ∈ LT.cps.toList
theorem cutL_take {α : Type} [Rp α] {l : List α} {n : Nat} : cutL l none (some (n : Int)) = l.take n := cutL_to
section
variable {P : Program} {w : World} {K : PySem.W.Frag} {mg : Str → Option Value} {base : Heap} {f C : Addr} {fd : FuncData}
theorem c_word (D : C8.Def K mg "_law_word" sLawWord f fd) (b : Binds K fd ["purse"] []) (B : Bt mg) (cD : C8.Cal P w K mg base 2 "_law_draw" PDraw []) : C8.Cal P w K mg base 3 "_law_word" PWord [] := by
  refine C8.cal0 D b .nil scLawWord (fun vs H Q E h => ?_) fun cdv A outer s H vs Q E hr h => ?_
  · obtain ⟨G, q, b', rfl, _⟩ := h
    rfl
  · obtain ⟨G, q, b', rfl, sG, pq, hb, kk⟩ := h
    refine ⟨_, pss_ws, ?_⟩
    refine ws_asg 1 (Same.refl G) sG Ev.str (fun G1 H1 v1 g1 r1 => ?_) scLawWord.nd
    cases r1
    have pq1 := pq.gr g1
    refine ws_forR 2 (G1 := G) (fun n i σ' G' H' => ∃ tn, ∃ z : Str, σ' = [some (.ref q), some (.str z), tn] ∧ 1 ≤ n ∧ n ≤ 8 ∧ GrM (Mq q) G H G' H' ∧ Purse q (b' + 1 + (i : Nat)) G' H' ∧ isPart z i) B.range
      (we_op op_add (Ev.ap g1.s Ev.int fun G2 H2 v2 g2 r2 => ?_)) ?_ ?_ scLawWord.nd
    · cases r2
      refine we_call2 cD hr (we_v 0 rfl (Ev.ap g2.s (Ev.int (i := 8)) fun G3 H3 v3 g3 r3 => ?_))
      cases r3
      refine ⟨G3, q, 8, b', rfl, g3.s, (pq1.gr g2).gr g3, by decide, by decide, by omega, fun G4 H4 r g4 p4 r0 r8 => ?_⟩
      refine ⟨1, r, rfl, rfl, (1 + r).toNat, ?_, by omega, G4, ((g1.trans g2).trans g3).g.trans g4.g, g4.s, none, "", rfl, by omega, by omega, ((g1.trans g2).trans g3).any.trans g4, p4.le (by omega), by decide +kernel, by decide +kernel⟩
      rw [Int.toNat_of_nonneg (by omega)]
    · rintro n i σ1 G2 H2 hi s12 s22 ⟨tn, z, rfl, hn1, hn8, gA, p2, hz⟩
      refine ws_asgW 1 (we_op op_add_str (we_v 1 rfl (we_ixS (we_call2 cD hr (we_v 0 rfl (Ev.ap s22 (Ev.int (i := 26)) fun G3 H3 v3 g3 r3 => ?_)))))) scLawWord.nd
      cases r3
      refine ⟨G3, q, 26, _, rfl, g3.s, p2.gr g3, by decide, by decide, by omega, fun G4 H4 r g4 p4 r0 r26 => ?_⟩
      have hlt : r.toNat < LT.cps.toList.length := by
        have : LT.cps.toList.length = 26 := by decide +kernel
        omega
      have hc : atI LT.cps.toList ((r.toNat : Nat) : Int) = some LT.cps.toList[r.toNat] := atI_nat (List.getElem?_eq_getElem hlt)
      refine ⟨r.toNat, LT.cps.toList[r.toNat], by rw [Int.toNat_of_nonneg r0], by decide +kernel, hc, z, _, rfl, rfl, ?_, ?_⟩
      · have e1 : (Str.mk #[LT.cps.toList[r.toNat]]).length = 1 := rfl
        have e2 := hz.1
        have e3 : sizeLine = 16777216 := rfl
        omega
      · refine ws_nil ⟨G4, g3.g.trans g4.g, g4.s, _, z ++ ⟨#[LT.cps.toList[r.toNat]]⟩, rfl, hn1, hn8, (gA.trans g3.any).trans g4, p4.le (by omega), ?_, ?_⟩
        · rw [len_cat, hz.1]; rfl
        · intro c hc
          have h1 : z = S (tl z) := (S_tl _).symm
          have h2 : z ++ (⟨#[LT.cps.toList[r.toNat]]⟩ : Str) = S (tl z ++ [LT.cps.toList[r.toNat]]) := by
            conv => lhs; rw [h1]
            exact S_cat _ _
          rw [h2] at hc
          have hc : c ∈ tl z ++ [LT.cps.toList[r.toNat]] := hc
          rcases List.mem_append.mp hc with hc | hc
          · exact hz.2 c hc
          · rw [List.mem_singleton] at hc
            rw [hc]
            exact List.getElem_mem hlt
    · rintro n σ1 G2 H2 s12 s22 ⟨tn, z, rfl, hn1, hn8, gA, p2, hz⟩
      refine ws_retW (we_v 1 rfl (kk G2 H2 z gA (p2.le (by omega)) ?_))
      exact decide_eq_true ⟨by rw [hz.1]; exact hn1, by rw [hz.1]; exact hn8, hz.2⟩
theorem c_names (D : C8.Def K mg "_law_names" sLawNames f fd) (b : Binds K fd ["purse", "many"] []) (B : Bt mg) (cW : C8.Cal P w K mg base 3 "_law_word" PWord []) (cS : C8.Cal P w K mg base 3 "_law_shuffled" (PShuf Str) []) : C8.Cal P w K mg base 4 "_law_names" PWords [] := by
  refine C8.cal0 D b .nil scLawNames (fun vs H Q E h => ?_) fun cdv A outer s H vs Q E hr h => ?_
  · obtain ⟨G, q, n, b', rfl, _⟩ := h
    rfl
  · obtain ⟨G, q, n, b', rfl, sG, pq, hn, hb, kk⟩ := h
    refine ⟨_, pss_ws, ?_⟩
    refine WS.cons (ps_asg pe_we (pg_two (i := 2) (j := 3) rfl scLawNames.nd rfl rfl (by first | exact Or.inl rfl | exact Or.inr rfl) (by first | exact Or.inl rfl | exact Or.inr rfl) (by first | exact .inl rfl | exact .inr rfl) (by first | exact .inl rfl | exact .inr rfl))) ?_
    refine WE.of (pe_tup (pa_cons pe_we (pa_cons pe_we pa_nil))) ?_
    refine Ev.ap (a := W8) sG (Ev.lst (EL.cons Ev.str (EL.cons Ev.str (EL.cons Ev.str (EL.cons Ev.str (EL.cons Ev.str (EL.cons Ev.str (EL.cons Ev.str (EL.cons Ev.str EL.nil)))))))) (show 8 ≤ 1000 by decide)) fun G1 H1 v1 g1 r1 => ?_
    refine we_call1 cW hr (we_v 0 rfl ⟨G1, q, b', rfl, g1.s, pq.gr g1, by omega, fun G2' H2' z g2' p2' hz => ?_⟩)
    refine ⟨small_sz (n := 2), fun tp htp => ?_⟩
    have gt := Gr.new (o := .tup [v1, .str z]) g2'.s htp
    have g2 : GrM (Mq q) G1 H1 _ _ := g2'.trans gt.any
    have p2 := p2'.gr gt
    refine g_two (x := W8) (y := z) gt.s ⟨tp, _, _, rfl, upd_same, rup g2.g r1, rfl⟩ fun u w ru rw => ?_
    cases rw
    have r2 := ru
    have rz : ∀ G : Hp, rp G (.str z) z := fun _ => rfl
    have zok : Da.lay z := (isName_zok hz).2
    have wok : Da.lay W8 := fun a ha => (isName_zok (w8_names a ha)).2
    have hfr : ∀ y ∈ ([z] : List Str).filter (fun y => !decide (y ∈ W8)), y = z ∧ ¬ z ∈ W8 := fun y hy => by
      have h1 := List.mem_filter.mp hy
      have h2 : y = z := List.mem_singleton.mp h1.1
      subst h2
      exact ⟨rfl, by simpa using h1.2⟩
    have hnames : ∀ y ∈ W8 ++ ([z] : List Str).filter (fun y => !decide (y ∈ W8)), isName y = true := fun y hy => by
      rcases List.mem_append.mp hy with hy | hy
      · exact w8_names y hy
      · rw [(hfr y hy).1]; exact hz
    have hnd : (W8 ++ ([z] : List Str).filter (fun y => !decide (y ∈ W8))).Nodup := by
      refine List.nodup_append.mpr ⟨w8_nodup, (List.filter_sublist).nodup (by simp), fun x hx y hy e => ?_⟩
      subst e
      have := hfr x hy
      rw [this.1] at hx
      exact this.2 hx
    have hlen : (W8 ++ ([z] : List Str).filter (fun y => !decide (y ∈ W8))).length ≤ 9 := by
      have h1 := List.length_filter_le (fun y => !decide (y ∈ W8)) [z]
      rw [List.length_append]
      have h2 : W8.length = 8 := rfl
      have h3 : ([z] : List Str).length = 1 := rfl
      omega
    have hlen8 : 8 ≤ (W8 ++ ([z] : List Str).filter (fun y => !decide (y ∈ W8))).length := by
      rw [List.length_append]
      have h2 : W8.length = 8 := rfl
      omega
    refine ws_retW (we_sortedS B (we_slTo (α := Str) (i := (n : Int)) (we_call2 cS hr (we_v 0 rfl (Ev.ap (a := W8 ++ ([z] : List Str).filter (fun y => !decide (y ∈ W8))) g2.s (Ev.cat (Ev.v 2 rfl r2) (Ev.lcSel 4 (t := fun y => !decide (y ∈ W8)) (EI.list (Ev.lst (EL.cons (Ev.v 3 rfl (rz _)) EL.nil) (show 1 ≤ 1000 by decide)))
      (fun d hd G' v' s1 r' s H C cl fp => ET.niD hr.units65 (Ev.v 4 rfl r') (Ev.v 2 rfl (rup s1 r2)) (by rw [List.mem_singleton.mp hd]; exact zok) wok) (show 1 < sizeLine by decide) scLawNames.nd (blkOk_by (N := nLawNames) (sc := C8.fnScope sLawNames) (by decide +kernel))) (by rw [List.length_append] at hlen; have e3 : sizeLine = 16777216 := rfl; omega)) fun G3 H3 v3 g3 r3 => ?_)))))
    refine ⟨G3, q, v3, _, _, rfl, g3.s, p2.gr g3, r3, by omega, by omega, fun G4 H4 w4 l4 g4 p4 pm r4 => ?_⟩
    refine ⟨G4, l4, g4.s, r4, Ev.v 1 rfl rfl, fun G5 H5 w5 g5 r5 => ?_⟩
    rw [cutL_take] at r5
    have hl4 := pm.length_eq
    refine ⟨G5, _, g5.s, r5, by rw [List.length_take]; omega, fun p hp => ?_⟩
    have gA : GrM (Mq q) G H G5 H5 := (((g1.any.trans g2).trans g3.any).trans g4).trans g5.any
    have gn := Gr.new (o := .lst ((sortS (l4.take n)).map V.str)) g5.s hp
    refine kk _ _ _ (sortS (l4.take n)) (gA.trans gn.any) (((p4.gr g5).gr gn).le (by omega)) (by rw [sortS_length, List.length_take]; omega) (sortS_sorted _) (sortS_nodup ((List.take_sublist n l4).nodup (pm.nodup_iff.mpr hnd))) (fun y hy => hnames y (pm.mem_iff.mp (List.mem_of_mem_take (mem_sortS.mp hy)))) ⟨p, _, rfl, upd_same, strs_to _⟩
end
end T82

namespace T82
open PySem L2 D1 Rp
/-! ### what the law draws -/
open SX
structure Nm8 (ns : List Str) : Prop where
  names : ∀ z ∈ ns, isName z = true
  nodup : ns.Nodup
  sorted : SortedS ns
  few : ns.length ≤ 12
  ne : ns ≠ []
theorem Nm8.nok {ns : List Str} (h : Nm8 ns) : Nok ns := ⟨decide_eq_true ⟨h.names, h.nodup⟩, Nat.lt_of_le_of_lt h.few (by decide)⟩
theorem Nm8.pos {ns : List Str} (h : Nm8 ns) : 1 ≤ ns.length := by
  have := h.ne
  cases ns with
  | nil => exact absurd rfl this
  | cons a l => exact Nat.succ_le_succ (Nat.zero_le _)
theorem sub_len {α : Type} [DecidableEq α] : ∀ {l m : List α}, l.Nodup → (∀ x ∈ l, x ∈ m) → l.length ≤ m.length
  | [], m, _, _ => Nat.zero_le _
  | a :: l, m, hn, hs => by
    have hn' := List.nodup_cons.mp hn
    have p := List.perm_cons_erase (hs a List.mem_cons_self)
    have := sub_len hn'.2 (m := m.erase a) fun x hx => by
      have hxm := hs x (List.mem_cons_of_mem _ hx)
      rcases List.mem_cons.mp (p.mem_iff.mp hxm) with e | h
      · subst e; exact absurd hx hn'.1
      · exact h
    have hl := p.length_eq
    simp only [List.length_cons] at hl ⊢
    omega
/-- some of the names, sorted -/
def Part (f ns : List Str) : Prop := (∀ z ∈ f, z ∈ ns) ∧ f.Nodup ∧ SortedS f ∧ f ≠ []
theorem Part.sub {f ns : List Str} (h : Part f ns) (hn : Nm8 ns) : Nm8 f := by
  refine ⟨fun z hz => hn.names z (h.1 z hz), h.2.1, h.2.2.1, ?_, h.2.2.2⟩
  exact Nat.le_trans (sub_len h.2.1 h.1) hn.few
theorem part_cut {l ns : List Str} {k : Nat} (pm : l.Perm ns) (hn : Nm8 ns) (hk : 1 ≤ k) : Part (sortS (l.take k)) ns := by
  refine ⟨fun z hz => pm.mem_iff.mp (List.mem_of_mem_take (mem_sortS.mp hz)), sortS_nodup ((List.take_sublist k l).nodup (pm.nodup_iff.mpr hn.nodup)), sortS_sorted _, fun e => ?_⟩
  have h1 := sortS_length (l.take k)
  rw [e, List.length_take, pm.length_eq] at h1
  have := hn.pos
  simp at h1
  omega
/-! ### rounds and rows that are drawn -/
theorem perm_sub2 {α : Type} [DecidableEq α] : ∀ {l m : List α}, l.Nodup → (∀ x ∈ l, x ∈ m) → m.length ≤ l.length → l.Perm m
  | [], m, _, _, hl => by
    have : m = [] := List.eq_nil_of_length_eq_zero (by simpa using hl)
    subst this
    exact List.Perm.refl _
  | a :: l, m, hn, hs, hl => by
    have hn' := List.nodup_cons.mp hn
    have p := List.perm_cons_erase (hs a List.mem_cons_self)
    have hlen := p.length_eq
    refine ((perm_sub2 hn'.2 (fun x hx => ?_) ?_).cons a).trans p.symm
    · rcases List.mem_cons.mp (p.mem_iff.mp (hs x (List.mem_cons_of_mem _ hx))) with e | h
      · subst e; exact absurd hx hn'.1
      · exact h
    · simp only [List.length_cons] at hl hlen
      omega
theorem perm_same {α : Type} [DecidableEq α] {l m : List α} (h1 : l.Nodup) (h2 : m.Nodup) (h : ∀ x, x ∈ l ↔ x ∈ m) : l.Perm m := perm_sub2 h1 (fun x hx => (h x).mp hx) (sub_len h2 fun x hx => (h x).mpr hx)
def PRows : Sp := fun vs H Q _ => ∃ G q v ns, ∃ n : Nat, ∃ b : Int, vs = [.ref q, v, .int (n : Int)] ∧ Same G H ∧ Purse q b G H ∧ rp G v ns ∧ Nm8 ns ∧ n ≤ 8 ∧ b < 2 ^ 36 ∧ ∀ G' H' w (l : List (List Str)), GrM (Mq q) G H G' H' → Purse q (b + 160) G' H' → l.length = n → (∀ t ∈ l, t.Perm ns) → rp G' w l → Q w H'
section
variable {P : Program} {w : World} {K : PySem.W.Frag} {mg : Str → Option Value} {base : Heap} {f C : Addr} {fd : FuncData}
theorem c_rows_law (D : C8.Def K mg "_law_rows_of" sLawRowsOf f fd) (b : Binds K fd ["purse", "names", "many"] []) (B : Bt mg) (cD : C8.Cal P w K mg base 2 "_law_draw" PDraw []) (cS : C8.Cal P w K mg base 3 "_law_shuffled" (PShuf Str) []) : C8.Cal P w K mg base 4 "_law_rows_of" PRows [] := by
  refine C8.cal0 D b .nil scLawRowsOf (fun vs H Q E h => ?_) fun cdv A outer s H vs Q E hr h => ?_
  · obtain ⟨G, q, v, ns, n, b', rfl, _⟩ := h
    rfl
  · obtain ⟨G, q, v, ns, n, b', rfl, sG, pq, r, hn, hn8, hb, kk⟩ := h
    refine ⟨_, pss_ws, ?_⟩
    have h8 := hn.few
    have h1 := hn.pos
    refine WS.cons (ps_par (i := 3) (j := 4) rfl scLawRowsOf.nd rfl rfl (by decide) rfl rfl (pa_cons pe_we (pa_cons pe_we pa_nil)) rfl) ?_
    refine we_call2 cS hr (we_v 0 rfl (we_v 1 rfl ⟨G, q, v, ns, b', rfl, sG, pq, r, by omega, by omega, fun G1 H1 bw bl g1 p1 bp rb => ?_⟩))
    refine we_lstM (xs := ([] : List (List Str))) g1.s EL.nil (fun G2 H2 vs fo g2 hfo pr => ?_) (show 0 ≤ 1000 by decide)
    cases pr
    refine ⟨bw, .ref fo, rfl, ?_⟩
    have hfo0 : H fo = none := g1.fresh (g2.fresh hfo)
    have p2 := p1.gr g2
    have qfo : q ≠ fo := fun e => by subst e; exact pq.some hfo0
    have gfo2 := g2.s.free hfo
    have g12 : GrM (Mq q) G H G2 H2 := g1.trans g2.any
    have g2' := g12.off (o := .lst []) hfo0 gfo2
    have rb2 := rup g2.g rb
    refine ws_asgW 5 (we_call2 cD hr (we_v 0 rfl (Ev.ap g2'.s (Ev.int (i := 3)) fun G3 H3 v3 g3 r3 => ?_))) scLawRowsOf.nd
    cases r3
    refine ⟨G3, q, 3, _, rfl, g3.s, (p2.off qfo).gr g3, by decide, by decide, by omega, fun G4 H4 wy g4 p4 w0 w3 => ?_⟩
    have gfo3 := g3.f fo gfo2 (by rw [upd_same]; exact fun z => nomatch z)
    have hfo3 := g3.hh _ _ (upd_same (H := H2) (o := .lst []))
    have hfo4 : H4 fo = some (.lst []) := g4.h fo _ (fun e => qfo e.symm) hfo3
    have gfo4 := g4.f fo gfo3 (by rw [hfo3]; exact fun z => nomatch z)
    have g04 := (g2'.trans g3.any).trans g4
    have rb4 := rup (g3.g.trans g4.g) rb2
    have hup : (upto ((n : Nat) : Int).toNat).length = n := by simp [upto]
    have bnd : bl.Nodup := bp.nodup_iff.mpr hn.nodup
    refine ws_for (fun i σ' G' H' => ∃ acc t6 t7 t8 t9 t10, ∃ l' : List (List Str), σ' = [some (.ref q), some v, some (.int (n : Int)), some bw, some (.ref fo), some (.int wy), t6, t7, t8, t9, t10] ∧ GrM (Mq q) G H G' H' ∧ Purse q (b' + 13 + 14 * (i : Nat)) G' H' ∧ G' fo = none ∧ H' fo = some (.lst acc) ∧ Paired (rp G') acc l' ∧ l'.length = i ∧ ∀ t ∈ l', t.Perm ns)
      (G := G4) (Same.refl _) g04.s (EI.range1 B.range (Ev.v 2 rfl (show rp _ (.int (n : Int)) (n : Int) from rfl)) ⟨by omega, by omega⟩) tgB1 (pg_name (i := 6) scLawRowsOf.nd rfl (by first | exact Or.inl rfl | exact Or.inr rfl))
      (fun G5 H5 g5 => ⟨[], none, none, none, none, none, [], rfl, g04.trans g5.any, (p4.gr g5).le (by omega), g5.f fo gfo4 (by rw [hfo4]; exact fun z => nomatch z), g5.hh _ _ hfo4, .nil, rfl, fun t ht => by cases ht⟩) ?_ ?_ PassesOwn.never
    · rintro i c σ1 G5 H5 hc s45 s55 ⟨acc, t6, t7, t8, t9, t10, l', rfl, gA, p5, nf, hf, pr, hl', hg'⟩ G6 H6 σ2 g6 ⟨lw, rl, rfl⟩
      have hi : i < n := by rw [← hup]; exact (List.getElem?_eq_some_iff.mp hc).1
      have nf6 := g6.f fo nf (by rw [hf]; exact fun z => nomatch z)
      have hf6 := g6.hh _ _ hf
      refine ws_asgW 7 (we_call2 cS hr (we_v 0 rfl (we_v 1 rfl ⟨G6, q, v, ns, _, rfl, g6.s, p5.gr g6, rup (gA.g.trans g6.g) r, by omega, by omega, fun G7 H7 rw7 rl7 g7 p7 rp7 r7 => ?_⟩))) scLawRowsOf.nd
      have nf7 := g7.f fo nf6 (by rw [hf6]; exact fun z => nomatch z)
      have hf7 : H7 fo = some (.lst acc) := g7.h fo _ (fun e => qfo e.symm) hf6
      have hal : acc.length = i := pr.length.trans hl'
      have gB := (gA.trans g6.any).trans g7
      -- the end of the turn, with the row that is put
      have fin : ∀ (D : Ends), D.nx = (fun σ' H' => ∃ G', Same G6 G' ∧ Same G' H' ∧ (∃ acc t6 t7 t8 t9 t10, ∃ l' : List (List Str), σ' = [some (.ref q), some v, some (.int (n : Int)), some bw, some (.ref fo), some (.int wy), t6, t7, t8, t9, t10] ∧ GrM (Mq q) G H G' H' ∧ Purse q (b' + 13 + 14 * ((i + 1 : Nat))) G' H' ∧ G' fo = none ∧ H' fo = some (.lst acc) ∧ Paired (rp G') acc l' ∧ l'.length = i + 1 ∧ ∀ t ∈ l', t.Perm ns)) → ∀ (G8 H8 : Hp) (u t8' t9' t10' : Option V) (rw8 : V) (row : List Str), u = some rw8 → GrM (Mq q) G H G8 H8 → Same G7 G8 → Purse q (b' + 13 + 14 * ((i + 1 : Nat))) G8 H8 → G8 fo = none → H8 fo = some (.lst acc) → rp G8 rw8 row → row.Perm ns →
          WS (BX P w K mg base nLawRowsOf "_law_rows_of" sLawRowsOf f cdv A outer s H E) (match C8.fnBody sLawRowsOf with | [_, _, .For _ _ [_, _, e] _ _, _] => [e] | _ => []) D [some (.ref q), some v, some (.int (n : Int)), some bw, some (.ref fo), some (.int wy), some lw, u, t8', t9', t10'] H8 := fun D hD G8 H8 u t8' t9' t10' rw8 row hu g8 s78 p8 nf8 hf8 r8 hp8 => by
        subst hu
        refine ws_exprW (WE.of (pe_bm PySem.F.plainAttrs_list PySem.F.slot_list_append PySem.F.type_list_append mt_append (pv 4) (pa_cons pe_we pa_nil)) ?_)
        refine ⟨.ref fo, rfl, .inl ⟨rfl, _, SqL.of hf8⟩, we_v 7 rfl ?_⟩
        refine ⟨fo, acc, rw8, rfl, rfl, hf8, by rw [hal]; exact Nat.lt_of_lt_of_le hi (Nat.le_trans hn8 (by decide)), ?_⟩
        refine ws_nil ?_
        rw [hD]
        refine ⟨G8, g7.g.trans s78, (g8.off hfo0 nf8).s, _, some lw, some rw8, t8', t9', t10', l' ++ [row], rfl, g8.off hfo0 nf8, p8.off qfo, nf8, upd_same, r2_cat.PairedAppend (pmono pr fun _ _ => rup ((g6.g.trans g7.g).trans s78)) (.cons r8 .nil), by rw [List.length_append, hl']; rfl, fun t ht => ?_⟩
        rcases List.mem_append.mp ht with ht | ht
        · exact hg' t ht
        · rw [List.mem_singleton.mp ht]; exact hp8
      have hrl : rl7.length ≤ 12 := by rw [rp7.length_eq]; exact h8
      have rnd : rl7.Nodup := rp7.nodup_iff.mpr hn.nodup
      refine ws_ifW (ET.ap g7.s (ET.gt (Ev.v 5 rfl (show rp _ (.int wy) wy from rfl)) Ev.int) fun G8 H8 g8 => ?_)
      have nf8 := g8.f fo nf7 (by rw [hf7]; exact fun z => nomatch z)
      have hf8 := g8.hh _ _ hf7
      have g08 := gB.trans g8.any
      by_cases hw : 0 < wy
      · rw [show decide (wy > 0) = true from decide_eq_true hw]
        refine iteT ?_
        refine WS.cons (ps_asg pe_we (pg_two (i := 8) (j := 9) rfl scLawRowsOf.nd rfl rfl (by first | exact Or.inl rfl | exact Or.inr rfl) (by first | exact Or.inl rfl | exact Or.inr rfl) (by first | exact .inl rfl | exact .inr rfl) (by first | exact .inl rfl | exact .inr rfl))) ?_
        refine WE.of (pe_tup (pa_cons pe_we (pa_cons pe_we pa_nil))) ?_
        refine we_call2 cD hr (we_v 0 rfl (Ev.ap g8.s (Ev.lenL B (Ev.v 1 rfl (rup g08.g r))) fun G9 H9 v9 g9 r9 => ?_))
        cases r9
        refine ⟨G9, q, _, _, rfl, g9.s, (p7.gr g8).gr g9, by omega, by omega, by omega, fun G10 H10 cu g10 p10 c0 c1 => ?_⟩
        refine we_slToI (α := Str) (we_v 7 rfl (we_op op_sub (we_op op_add (we_call2 cD hr (we_v 0 rfl (Ev.ap g10.s (Ev.int (i := 3)) fun G11 H11 v11 g11 r11 => ?_))))))
        cases r11
        refine ⟨G11, q, 3, _, rfl, g11.s, p10.gr g11, by decide, by decide, by omega, fun G12 H12 z g12 p12 z0 z3 => we_v 5 rfl ⟨z, wy, rfl, rfl, WE.of pe_int ⟨z + wy, 1, rfl, rfl, ?_⟩⟩⟩
        have s712 := (g8.trans g9).g.trans (g10.g.trans (g11.g.trans g12.g))
        refine ⟨G12, rl7, z + wy - 1, rfl, g12.s, rup s712 r7, fun G13 H13 hw13 g13 r13 => ⟨small_sz (n := 2), fun tp htp => ?_⟩⟩
        have ez : (z + wy - 1 : Int) = ((z + wy - 1).toNat : Nat) := by rw [Int.toNat_of_nonneg (by omega)]
        rw [ez, cutL_to] at r13
        generalize (z + wy - 1).toNat = m at r13
        have g14 := Gr.new (o := .tup [.int cu, hw13]) g13.s htp
        have nf9 := g9.f fo nf8 (by rw [hf8]; exact fun z => nomatch z)
        have hf9 := g9.hh _ _ hf8
        have hf10 : H10 fo = some (.lst acc) := g10.h fo _ (fun e => qfo e.symm) hf9
        have nf10 := g10.f fo nf9 (by rw [hf9]; exact fun z => nomatch z)
        have nf11 := g11.f fo nf10 (by rw [hf10]; exact fun z => nomatch z)
        have hf11 := g11.hh _ _ hf10
        have hf12 : H12 fo = some (.lst acc) := g12.h fo _ (fun e => qfo e.symm) hf11
        have nf12 := g12.f fo nf11 (by rw [hf11]; exact fun z => nomatch z)
        have g1214 := g13.trans g14
        have hf14 := g1214.hh _ _ hf12
        have nf14 := g1214.f fo nf12 (by rw [hf12]; exact fun z => nomatch z)
        have g014 := ((((g08.trans g9.any).trans g10).trans g11.any).trans g12).trans g1214.any
        have p14 := (p12.gr g13).gr g14
        refine g_two (x := (cu : Int)) (y := rl7.take m) g14.s ⟨tp, _, _, rfl, upd_same, rfl, rup g14.g r13⟩ fun u w ru rw14 => ?_
        have s414 : Same G4 _ := s45.trans (g6.g.trans (g7.g.trans (s712.trans g1214.g)))
        have lnm : ∀ z ∈ rl7, Da.lay z := fun z hz => (isName_zok (hn.names z (rp7.mem_iff.mp hz))).2
        have lbm : ∀ z ∈ bl, Da.lay z := fun z hz => (isName_zok (hn.names z (bp.mem_iff.mp hz))).2
        have e3 : sizeLine = 16777216 := rfl
        have hbl : bl.length ≤ 12 := by rw [bp.length_eq]; exact h8
        have hperm : (rl7.take m ++ bl.filter (fun z => !decide (z ∈ rl7.take m))).Perm ns := by
          refine perm_same (List.nodup_append.mpr ⟨(List.take_sublist _ _).nodup rnd, (List.filter_sublist).nodup bnd, fun x hx y hy e => ?_⟩) hn.nodup fun x => ?_
          · subst e
            have := (List.mem_filter.mp hy).2
            simp [hx] at this
          · rw [List.mem_append, List.mem_filter]
            constructor
            · rintro (h | h)
              · exact rp7.mem_iff.mp (List.mem_of_mem_take h)
              · exact bp.mem_iff.mp h.1
            · intro h
              by_cases hx : x ∈ rl7.take m
              · exact .inl hx
              · exact .inr ⟨bp.mem_iff.mpr h, by simp [hx]⟩
        have hfl := List.length_filter_le (fun z => !decide (z ∈ rl7.take m)) bl
        refine ws_asg 7 (Same.refl _) g14.s (Ev.cat (Ev.v 9 rfl rw14) (Ev.lcSel 10 (t := fun z => !decide (z ∈ rl7.take m)) (EI.list (Ev.v 3 rfl (rup s414 rb4))) (fun d hd G' v' s1 r' s H C cl fp => ET.niD hr.units65 (Ev.v 10 rfl r') (Ev.v 9 rfl (rup s1 rw14)) (lbm d hd) fun z hz => lnm z (List.mem_of_mem_take hz)) (by omega) scLawRowsOf.nd (blkOk_by (N := nLawRowsOf) (sc := C8.fnScope sLawRowsOf) (by decide +kernel))) (by rw [List.length_take]; omega)) (fun G15 H15 w15 g15 r15 => ?_) scLawRowsOf.nd
        refine ws_asg 7 (Same.refl _) g15.s (Ev.ite (ET.gt (Ev.v 8 rfl (rup g15.g ru)) Ev.int) (fun _ => Ev.v 7 rfl r15) fun _ => Ev.revL (Ev.v 7 rfl r15)) (fun G16 H16 w16 g16 r16 => ?_) scLawRowsOf.nd
        have g1416 := g15.trans g16
        refine ws_nil (fin _ rfl G16 H16 (some w16) (some u) (some w) t10 w16 _ rfl (g014.trans g1416.any) ((s712.trans g1214.g).trans g1416.g) ((p14.gr g1416).le (by omega)) (g1416.f fo nf14 (by rw [hf14]; exact fun z => nomatch z)) (g1416.hh _ _ hf14) r16 ?_)
        split
        · exact hperm
        · exact (List.reverse_perm _).trans hperm
      · rw [show decide (wy > 0) = false from decide_eq_false hw]
        refine iteF (ws_nil (fin _ rfl G8 H8 (some rw7) t8 t9 t10 rw7 rl7 rfl g08 g8.g ((p7.gr g8).le (by omega)) nf8 hf8 (rup g8.g r7) rp7))
    · rintro σ1 G5 H5 s45 s55 ⟨acc, t6, t7, t8, t9, t10, l', rfl, gA, p5, nf, hf, pr, hl', hg'⟩
      rw [hup] at hl' p5
      exact ws_retW (we_v 4 rfl (kk (upd G5 fo (.lst acc)) H5 _ l' (gA.promote hfo0 nf hf) ((p5.up qfo).le (by omega)) hl' hg' ⟨fo, acc, rfl, upd_same, pmono pr fun _ _ => rup (same_new nf)⟩))
end
end T82

namespace T82
open PySem L2 D1 Rp
/-! ### what is taken, step by step: the plain law -/
abbrev Off := List Str × Str
/-- x is not barred where row is taken -/
def okAt (offs : List Off) (row : List Str) (x : Str) : Bool := offs.all fun o => !decide (o.2 = x) || o.1.any fun z => decide (z ∈ row)
theorem okAt_iff {offs : List Off} {row : List Str} {x : Str} : okAt offs row x = true ↔ ∀ o ∈ offs, o.2 = x → ∃ z ∈ o.1, z ∈ row := by
  unfold okAt
  rw [List.all_eq_true]
  refine ⟨fun h o ho e => ?_, fun h o ho => ?_⟩
  · have := h o ho
    rw [decide_eq_true e, Bool.not_true, Bool.false_or, List.any_eq_true] at this
    obtain ⟨z, hz, h2⟩ := this
    exact ⟨z, hz, of_decide_eq_true h2⟩
  · by_cases e : o.2 = x
    · obtain ⟨z, hz, h2⟩ := h o ho e
      rw [decide_eq_true e, Bool.not_true, Bool.false_or, List.any_eq_true]
      exact ⟨z, hz, decide_eq_true h2⟩
    · rw [decide_eq_false e]; rfl
/-- the least set that is closed -/
def Reach (ns : List Str) (offs : List Off) (x : Str) : Prop := ∀ S : Str → Prop, (∀ y ∈ ns, (∀ o ∈ offs, o.2 = y → ∃ z ∈ o.1, S z) → S y) → S x
theorem Reach.step {ns : List Str} {offs : List Off} {x : Str} (hx : x ∈ ns) (h : ∀ o ∈ offs, o.2 = x → ∃ z ∈ o.1, Reach ns offs z) : Reach ns offs x := fun S hS =>
  hS x hx fun o ho e => by
    obtain ⟨z, hz, r⟩ := h o ho e
    exact ⟨z, hz, r S hS⟩
theorem Reach.anti {ns : List Str} {offs offs' : List Off} {x : Str} (hs : ∀ o ∈ offs, o ∈ offs') (h : Reach ns offs' x) : Reach ns offs x :=
  h _ fun y hy k => Reach.step hy fun o ho e => k o (hs o ho) e
def Full (ns : List Str) (offs : List Off) : Prop := ∀ x ∈ ns, Reach ns offs x
theorem Full.anti {ns : List Str} {offs offs' : List Off} (hs : ∀ o ∈ offs, o ∈ offs') (h : Full ns offs') : Full ns offs := fun x hx => (h x hx).anti hs
/-- a row that is closed -/
structure Clo (ns : List Str) (offs : List Off) (row : List Str) : Prop where
  sub : ∀ x ∈ row, x ∈ ns
  re : ∀ x ∈ row, Reach ns offs x
theorem Clo.ok {ns row : List Str} {offs : List Off} (h : Clo ns offs row) {x : Str} (hx : x ∈ ns) (ok : okAt offs row x = true) : Reach ns offs x := Reach.step hx fun o ho e => by
  obtain ⟨z, hz, hr⟩ := okAt_iff.mp ok o ho e
  exact ⟨z, hz, h.re z hr⟩
theorem Clo.mem {ns row : List Str} {offs : List Off} (h : Clo ns offs row) (hc : ∀ x ∈ ns, okAt offs row x = true → x ∈ row) {x : Str} (r : Reach ns offs x) : x ∈ row :=
  r (fun y => y ∈ row) fun y hy k => hc y hy (okAt_iff.mpr k)
/-! ### all that are free at once -/
def wk (offs : List Off) : Nat → List Str → List Str → List Str × List Str
  | 0, row, rest => (row, rest)
  | n + 1, row, rest => if rest.filter (okAt offs row) = [] then (row, rest) else wk offs n (row ++ rest.filter (okAt offs row)) (rest.filter fun x => !okAt offs row x)
def walkedF (ns : List Str) (offs : List Off) : List Str × List Str := wk offs (ns.length + 1) [] ns
theorem filter_perm {α : Type} (t : α → Bool) : ∀ l : List α, (l.filter t ++ l.filter fun x => !t x).Perm l
  | [] => List.Perm.nil
  | x :: l => by
    have ih := filter_perm t l
    cases e : t x with
    | true =>
      rw [List.filter_cons_of_pos e, List.filter_cons_of_neg (by rw [e]; simp)]
      exact List.Perm.cons x ih
    | false =>
      rw [List.filter_cons_of_neg (by rw [e]; simp), List.filter_cons_of_pos (by rw [e]; rfl)]
      exact List.perm_middle.trans (List.Perm.cons x ih)
theorem wk_ok {ns : List Str} {offs : List Off} : ∀ (n : Nat) (row rest : List Str), rest.length < n → (row ++ rest).Perm ns → Clo ns offs row →
    ((wk offs n row rest).1 ++ (wk offs n row rest).2).Perm ns ∧ Clo ns offs (wk offs n row rest).1 ∧ ∀ x ∈ (wk offs n row rest).2, okAt offs (wk offs n row rest).1 x = false
  | 0, row, rest, h, _, _ => absurd h (Nat.not_lt_zero _)
  | n + 1, row, rest, h, pm, hc => by
    unfold wk
    by_cases e : rest.filter (okAt offs row) = []
    · rw [if_pos e]
      exact ⟨pm, hc, filter_nil_iff.mp e⟩
    · rw [if_neg e]
      have p2 := filter_perm (okAt offs row) rest
      have hl := p2.length_eq
      rw [List.length_append] at hl
      have hp : 0 < (rest.filter (okAt offs row)).length := List.length_pos_iff.mpr e
      refine wk_ok n _ _ (by omega) ?_ ⟨fun x hx => ?_, fun x hx => ?_⟩
      · rw [List.append_assoc]
        exact (List.Perm.append_left row p2).trans pm
      · rcases List.mem_append.mp hx with hx | hx
        · exact hc.sub x hx
        · exact pm.mem_iff.mp (List.mem_append_right _ (List.mem_filter.mp hx).1)
      · rcases List.mem_append.mp hx with hx | hx
        · exact hc.re x hx
        · exact hc.ok (pm.mem_iff.mp (List.mem_append_right _ (List.mem_filter.mp hx).1)) (List.mem_filter.mp hx).2
theorem walked_ok (ns : List Str) (offs : List Off) : ((walkedF ns offs).1 ++ (walkedF ns offs).2).Perm ns ∧ Clo ns offs (walkedF ns offs).1 ∧ ∀ x ∈ (walkedF ns offs).2, okAt offs (walkedF ns offs).1 x = false :=
  wk_ok (ns.length + 1) [] ns (Nat.lt_succ_self _) (List.Perm.refl _) ⟨fun x hx => (by cases hx), fun x hx => (by cases hx)⟩
theorem walked_full {ns : List Str} {offs : List Off} (hn : ns.Nodup) : (walkedF ns offs).2 = [] ↔ Full ns offs := by
  obtain ⟨h1, h2, h3⟩ := walked_ok ns offs
  constructor
  · intro e x hx
    rw [e, List.append_nil] at h1
    exact h2.re x (h1.mem_iff.mpr hx)
  · intro hf
    refine List.eq_nil_iff_forall_not_mem.mpr fun x hx => ?_
    have hxn : x ∈ ns := h1.mem_iff.mp (List.mem_append_right _ hx)
    have nd := h1.nodup_iff.mpr hn
    have hrow : x ∈ (walkedF ns offs).1 := h2.mem (fun y hy ok => by
      rcases List.mem_append.mp (h1.mem_iff.mpr hy) with h | h
      · exact h
      · rw [h3 y h] at ok; cases ok) (hf x hxn)
    exact (List.nodup_append.mp nd).2.2 x hrow x hx rfl
/-! ### one at a time -/
def freeF (ns : List Str) (offs : List Off) (t : List Str) : List Str := (ns.filter fun x => !decide (x ∈ t)).filter (okAt offs t)
def tkF (ns : List Str) (offs : List Off) : Nat → List Str
  | 0 => []
  | n + 1 => tkF ns offs n ++ (freeF ns offs (tkF ns offs n)).take 1
def takenF (ns : List Str) (offs : List Off) : List Str := tkF ns offs ns.length
theorem mem_free {ns t : List Str} {offs : List Off} {x : Str} : x ∈ freeF ns offs t ↔ x ∈ ns ∧ x ∉ t ∧ okAt offs t x = true := by
  unfold freeF
  rw [List.mem_filter, List.mem_filter]
  simp only [Bool.not_eq_true', decide_eq_false_iff_not, and_assoc]
theorem tk_ok (ns : List Str) (offs : List Off) : ∀ n : Nat, (tkF ns offs n).Nodup ∧ Clo ns offs (tkF ns offs n) ∧ ((tkF ns offs n).length = n ∨ ∀ x ∈ ns, okAt offs (tkF ns offs n) x = true → x ∈ tkF ns offs n)
  | 0 => ⟨List.nodup_nil, ⟨fun x hx => (by cases hx), fun x hx => (by cases hx)⟩, .inl rfl⟩
  | n + 1 => by
    obtain ⟨h1, h2, h3⟩ := tk_ok ns offs n
    unfold tkF
    generalize tkF ns offs n = t at h1 h2 h3
    cases e : freeF ns offs t with
    | nil =>
      rw [List.take_nil, List.append_nil]
      refine ⟨h1, h2, .inr fun x hx ok => ?_⟩
      refine Classical.byContradiction fun hn => ?_
      have : x ∈ freeF ns offs t := mem_free.mpr ⟨hx, hn, ok⟩
      rw [e] at this
      cases this
    | cons y r =>
      have hy : y ∈ freeF ns offs t := by rw [e]; exact List.mem_cons_self
      obtain ⟨y1, y2, y3⟩ := mem_free.mp hy
      have e1 : (y :: r).take 1 = [y] := rfl
      rw [e1]
      refine ⟨List.nodup_append.mpr ⟨h1, by simp, fun a ha b hb e2 => ?_⟩, ⟨fun x hx => ?_, fun x hx => ?_⟩, ?_⟩
      · rw [List.mem_singleton.mp hb] at e2
        exact y2 (e2 ▸ ha)
      · rcases List.mem_append.mp hx with hx | hx
        · exact h2.sub x hx
        · rw [List.mem_singleton.mp hx]; exact y1
      · rcases List.mem_append.mp hx with hx | hx
        · exact h2.re x hx
        · rw [List.mem_singleton.mp hx]; exact h2.ok y1 y3
      · rcases h3 with h3 | h3
        · exact .inl (by rw [List.length_append, h3]; rfl)
        · exact absurd (h3 y y1 y3) y2
theorem taken_full {ns : List Str} {offs : List Off} (hn : ns.Nodup) : ¬ (takenF ns offs).length < ns.length ↔ Full ns offs := by
  obtain ⟨h1, h2, h3⟩ := tk_ok ns offs ns.length
  show ¬ (tkF ns offs ns.length).length < ns.length ↔ _
  constructor
  · intro hl x hx
    have pm := perm_sub2 h1 h2.sub (Nat.le_of_not_lt hl)
    exact h2.re x (pm.mem_iff.mpr hx)
  · intro hf hl
    rcases h3 with h3 | h3
    · omega
    · have hsub : ∀ x ∈ ns, x ∈ tkF ns offs ns.length := fun x hx => h2.mem h3 (hf x hx)
      have := sub_len hn hsub
      omega
/-! ### books -/
def offsOf (ls : List Ln) (ws : List (List Str × Str)) : List Off :=
  ((ls.filter fun t : Ln => decide (t.a = "off")).map fun t => (t.b, t.c)) ++ ws.flatMap fun w => (w.1.filter fun x => !decide (x = w.2)).map fun x => ([w.2], x)
def callsOf (ls : List Ln) : List Ln := ls.filter fun t : Ln => decide (t.a = "call")
theorem offs_mono {ls ls' : List Ln} {ws : List (List Str × Str)} (h : ∀ t ∈ ls, t ∈ ls') : ∀ o ∈ offsOf ls ws, o ∈ offsOf ls' ws := fun o ho => by
  unfold offsOf at *
  rcases List.mem_append.mp ho with ho | ho
  · obtain ⟨t, ht, e⟩ := List.mem_map.mp ho
    obtain ⟨h1, h2⟩ := List.mem_filter.mp ht
    exact List.mem_append_left _ (List.mem_map.mpr ⟨t, List.mem_filter.mpr ⟨h t h1, h2⟩, e⟩)
  · exact List.mem_append_right _ ho
/-- there is a panel that keeps the lines -/
def Kept (ns : List Str) (ls : List Ln) : Prop := Full ns (offsOf ls []) ∧ ∀ t ∈ ls, t.a = "call" → Full ns (offsOf ls [(t.b, t.c)])
theorem Kept.less {ns : List Str} {ls ls' : List Ln} (h : ∀ t ∈ ls, t ∈ ls') (k : Kept ns ls') : Kept ns ls := ⟨k.1.anti (offs_mono h), fun t ht e => (k.2 t (h t ht) e).anti (offs_mono h)⟩
def barF (ns : List Str) (ls : List Ln) : Option (Option Ln × List Str) :=
  if (walkedF ns (offsOf ls [])).2 = [] then
    ((callsOf ls).find? fun t => !decide ((walkedF ns (offsOf ls [(t.b, t.c)])).2 = [])).map fun t => (some t, (walkedF ns (offsOf ls [(t.b, t.c)])).2)
  else some (none, (walkedF ns (offsOf ls [])).2)
theorem bar_none {ns : List Str} {ls : List Ln} (hn : ns.Nodup) : barF ns ls = none ↔ Kept ns ls := by
  unfold barF Kept
  by_cases e : (walkedF ns (offsOf ls [])).2 = []
  · rw [if_pos e, Option.map_eq_none_iff, List.find?_eq_none]
    refine ⟨fun h => ⟨(walked_full hn).mp e, fun t ht e2 => ?_⟩, fun h t ht => ?_⟩
    · have := h t (List.mem_filter.mpr ⟨ht, decide_eq_true e2⟩)
      simp only [Bool.not_eq_true', decide_eq_false_iff_not, Classical.not_not] at this
      exact (walked_full hn).mp this
    · obtain ⟨h1, h2⟩ := List.mem_filter.mp ht
      simp only [Bool.not_eq_true', decide_eq_false_iff_not, Classical.not_not]
      exact (walked_full hn).mpr (h.2 t h1 (of_decide_eq_true h2))
  · rw [if_neg e]
    exact ⟨fun h => (by cases h), fun h => absurd ((walked_full hn).mpr h.1) e⟩
/-- the law's own rows -/
def lawSome (ns : List Str) (ls : List Ln) : Option (List (List Str)) :=
  if ((([takenF ns (offsOf ls [])] ++ (callsOf ls).map fun t => takenF ns (offsOf ls [(t.b, t.c)])).filter fun r => decide (r.length < ns.length)) = []) then some ([takenF ns (offsOf ls [])] ++ (callsOf ls).map fun t => takenF ns (offsOf ls [(t.b, t.c)])) else none
theorem law_some {ns : List Str} {ls : List Ln} (hn : ns.Nodup) : lawSome ns ls ≠ none ↔ Kept ns ls := by
  unfold lawSome Kept
  generalize hR : ([takenF ns (offsOf ls [])] ++ (callsOf ls).map fun t => takenF ns (offsOf ls [(t.b, t.c)])) = R
  have hm : (R.filter fun r => decide (r.length < ns.length)) = [] ↔ Full ns (offsOf ls []) ∧ ∀ t ∈ ls, t.a = "call" → Full ns (offsOf ls [(t.b, t.c)]) := by
    rw [filter_nil_iff, ← hR]
    constructor
    · intro h2
      refine ⟨(taken_full hn).mp (of_decide_eq_false (h2 _ (List.mem_append_left _ List.mem_cons_self))), fun t ht e => (taken_full hn).mp (of_decide_eq_false (h2 _ (List.mem_append_right _ (List.mem_map.mpr ⟨t, List.mem_filter.mpr ⟨ht, decide_eq_true e⟩, rfl⟩))))⟩
    · intro h x hx
      rcases List.mem_append.mp hx with hx | hx
      · rw [List.mem_singleton.mp hx]; exact decide_eq_false ((taken_full hn).mpr h.1)
      · obtain ⟨t, ht, rfl⟩ := List.mem_map.mp hx
        obtain ⟨h1, h2⟩ := List.mem_filter.mp ht
        exact decide_eq_false ((taken_full hn).mpr (h.2 t h1 (of_decide_eq_true h2)))
  by_cases e : (R.filter fun r => decide (r.length < ns.length)) = []
  · rw [if_pos e]
    exact ⟨fun _ => hm.mp e, fun _ z => (by cases z)⟩
  · rw [if_neg e]
    exact ⟨fun z => absurd rfl z, fun k => absurd (hm.mpr k) e⟩
end T82

namespace T82
open PySem L2 D1 Rp
/-! ### rounds: the plain law -/
abbrev Rd := List Str × List Str
def rdLines (rs : List Rd) : List Ln := rs.flatMap fun r => (r.2.map fun n => (⟨"call", r.1, n⟩ : Ln)) ++ (r.1.filter fun n => !decide (n ∈ r.2)).map fun n => (⟨"off", r.2, n⟩ : Ln)
theorem mem_rdLines {rs : List Rd} {t : Ln} : t ∈ rdLines rs ↔ ∃ r ∈ rs, (t.a = "call" ∧ t.b = r.1 ∧ t.c ∈ r.2) ∨ (t.a = "off" ∧ t.b = r.2 ∧ t.c ∈ r.1 ∧ t.c ∉ r.2) := by
  unfold rdLines
  rw [List.mem_flatMap]
  constructor
  · rintro ⟨r, hr, h⟩
    rcases List.mem_append.mp h with h | h
    · obtain ⟨n, hn, rfl⟩ := List.mem_map.mp h
      exact ⟨r, hr, .inl ⟨rfl, rfl, hn⟩⟩
    · obtain ⟨n, hn, rfl⟩ := List.mem_map.mp h
      obtain ⟨h1, h2⟩ := List.mem_filter.mp hn
      exact ⟨r, hr, .inr ⟨rfl, rfl, h1, by simpa using h2⟩⟩
  · rintro ⟨r, hr, ⟨e1, e2, h⟩ | ⟨e1, e2, h, h2⟩⟩
    · refine ⟨r, hr, List.mem_append_left _ (List.mem_map.mpr ⟨t.c, h, ?_⟩)⟩
      obtain ⟨a, b, c⟩ := t
      subst e1 e2; rfl
    · refine ⟨r, hr, List.mem_append_right _ (List.mem_map.mpr ⟨t.c, List.mem_filter.mpr ⟨h, by simpa using h2⟩, ?_⟩)⟩
      obtain ⟨a, b, c⟩ := t
      subst e1 e2; rfl
theorem rd_mono {rs rs' : List Rd} (h : ∀ r ∈ rs, r ∈ rs') : ∀ t ∈ rdLines rs, t ∈ rdLines rs' := fun t ht => by
  obtain ⟨r, hr, k⟩ := mem_rdLines.mp ht
  exact mem_rdLines.mpr ⟨r, h r hr, k⟩
def isRoundP (r : Rd) (es : List Str) : Bool := isField r.1 es && isField r.2 r.1
structure RdsOk (es : List Str) (rs : List Rd) : Prop where
  nm : Lok es
  en : areEntries es = true
  lok : ∀ r ∈ rs, Lok r.1 ∧ Lok r.2
  rd : ∀ r ∈ rs, isRoundP r es = true
  few : rs.length ≤ 30
theorem RdsOk.sub {es : List Str} {rs rs' : List Rd} (h : RdsOk es rs) (hs : ∀ r ∈ rs', r ∈ rs) (hl : rs'.length ≤ 30) : RdsOk es rs' := ⟨h.nm, h.en, fun r hr => h.lok r (hs r hr), fun r hr => h.rd r (hs r hr), hl⟩
theorem fieldP {l es : List Str} (h : isField l es = true) : (∀ z ∈ l, isName z = true) ∧ l.Nodup ∧ l = sortS l ∧ (∀ x ∈ l, x ∈ es) ∧ l ≠ [] := by
  unfold isField isLot isAscending areNames at h
  simp only [Bool.and_eq_true, decide_eq_true_eq, Bool.not_eq_true', decide_eq_false_iff_not] at h
  exact ⟨h.1.1.1.1, h.1.1.1.2, h.1.1.2, h.1.2, h.2⟩
theorem roundP {r : Rd} {es : List Str} (h : isRoundP r es = true) : isField r.1 es = true ∧ isField r.2 r.1 = true := by
  unfold isRoundP at h
  rw [Bool.and_eq_true] at h
  exact h
theorem entP {es : List Str} (h : areEntries es = true) : (∀ z ∈ es, isName z = true) ∧ es.Nodup ∧ es ≠ [] := by
  unfold areEntries areNames at h
  simp only [Bool.and_eq_true, decide_eq_true_eq, Bool.not_eq_true', decide_eq_false_iff_not] at h
  exact ⟨h.1.1, h.1.2, h.2⟩
theorem rdLines_len {es : List Str} : ∀ {rs : List Rd}, (∀ r ∈ rs, Lok r.1 ∧ Lok r.2) → (∀ r ∈ rs, isRoundP r es = true) → (rdLines rs).length ≤ rs.length * 126
  | [], _, _ => Nat.zero_le _
  | r :: rs, h1, h2 => by
    have ih := rdLines_len (es := es) (rs := rs) (fun r hr => h1 r (List.mem_cons_of_mem _ hr)) (fun r hr => h2 r (List.mem_cons_of_mem _ hr))
    obtain ⟨a, b⟩ := h1 r List.mem_cons_self
    have e1 := List.length_filter_le (fun n => !decide (n ∈ r.2)) r.1
    unfold rdLines at *
    rw [List.flatMap_cons, List.length_append, List.length_append, List.length_map, List.length_map, List.length_cons]
    have := a.2
    have := b.2
    omega
theorem zok_call : Zok ("call" : Str) := ⟨by decide +kernel, by decide +kernel⟩
theorem zok_off : Zok ("off" : Str) := ⟨by decide +kernel, by decide +kernel⟩
theorem call_ne_off : ¬ ("call" : Str) = "off" := by decide +kernel
theorem rd_line {es : List Str} {rs : List Rd} (h : RdsOk es rs) {t : Ln} (ht : t ∈ rdLines rs) : LnOk t ∧ isLine t es = true := by
  obtain ⟨r, hr, k⟩ := mem_rdLines.mp ht
  obtain ⟨f1, f2⟩ := roundP (h.rd r hr)
  obtain ⟨n1, d1', s1, i1, e1⟩ := fieldP f1
  obtain ⟨n2, d2, s2, i2, e2⟩ := fieldP f2
  have f2' : isField r.2 es = true := by
    unfold isField isLot at f2 ⊢
    simp only [Bool.and_eq_true, decide_eq_true_eq] at f2 ⊢
    exact ⟨⟨f2.1.1, fun x hx => i1 x (i2 x hx)⟩, f2.2⟩
  obtain ⟨a, b, c⟩ := t
  rcases k with ⟨k1, k2, k3⟩ | ⟨k1, k2, k3, k4⟩
  · have k1 : a = "call" := k1
    have k2 : b = r.1 := k2
    have k3 : c ∈ r.2 := k3
    subst k1 k2
    have hc := n2 c k3
    refine ⟨⟨zok_call, (h.lok r hr).1, isName_zok hc⟩, ?_⟩
    unfold isLine
    rw [decide_eq_true (show c ∈ es from i1 c (i2 c k3))]
    simp only [hc, f1, Bool.and_true, Bool.true_and, decide_eq_true_eq]
    rw [decide_eq_true (i2 c k3)]
    simp
  · have k1 : a = "off" := k1
    have k2 : b = r.2 := k2
    have k3 : c ∈ r.1 := k3
    have k4 : c ∉ r.2 := k4
    subst k1 k2
    have hc := n1 c k3
    refine ⟨⟨zok_off, (h.lok r hr).2, isName_zok hc⟩, ?_⟩
    unfold isLine
    rw [decide_eq_true (show c ∈ es from i1 c k3)]
    simp only [hc, f2', Bool.and_true, Bool.true_and, decide_eq_true_eq]
    rw [decide_eq_false k4]
    simp
    exact fun z => call_ne_off z.symm
theorem rd_pre {es : List Str} {rs : List Rd} (h : RdsOk es rs) : bkPre es (rdLines rs) := by
  refine ⟨h.nm, h.en, ⟨fun t ht => (rd_line h ht).1, ?_⟩, decide_eq_true fun t ht => (rd_line h ht).2⟩
  have h1 := rdLines_len h.lok h.rd
  have h2 := h.few
  omega
/-- the book of rounds -/
def rdBook (C : Addr) (es : List Str) (rs : List Rd) : Bk C := mkBk es (rdLines rs)
theorem mem_told {C : Addr} {es : List Str} {rs : List Rd} {t : Ln} : t ∈ (rdBook C es rs).told ↔ t ∈ rdLines rs := by
  show t ∈ dedup (sortD (rdLines rs)) ↔ _
  rw [mem_dedup, mem_sortD]
/-- a book that may be asked -/
structure BkG {C : Addr} (b : Bk C) : Prop where
  ns : Lok b.names
  en : areEntries b.names = true
  so : SortedS b.names
  ls : LnsOk b.told
  li : ∀ t ∈ b.told, isLine t b.names = true
theorem BkG.ok {C : Addr} {b : Bk C} (h : BkG b) : BkOk b := ⟨h.ns, h.ls⟩
theorem isLine_congr {t : Ln} {es es' : List Str} (h : ∀ x, x ∈ es ↔ x ∈ es') : isLine t es = isLine t es' := by
  unfold isLine isField isLot
  have e1 : decide (∀ x ∈ t.b, x ∈ es) = decide (∀ x ∈ t.b, x ∈ es') := decide_eq_decide.mpr ⟨fun hh x hx => (h x).mp (hh x hx), fun hh x hx => (h x).mpr (hh x hx)⟩
  have e2 : decide (t.c ∈ es) = decide (t.c ∈ es') := decide_eq_decide.mpr (h t.c)
  rw [e1, e2]
theorem rdBook_good {C : Addr} {es : List Str} {rs : List Rd} (h : RdsOk es rs) : BkG (rdBook C es rs) := by
  obtain ⟨e1, e2, e3⟩ := entP h.en
  have hp := rd_pre h
  refine ⟨h.nm.sort, ?_, sortS_sorted _, ⟨fun t ht => (rd_line h (mem_told.mp ht)).1, ?_⟩, fun t ht => ?_⟩
  · show areEntries (sortS es) = true
    unfold areEntries areNames
    rw [decide_eq_true (⟨fun z hz => e1 z (mem_sortS.mp hz), sortS_nodup e2⟩ : (∀ z ∈ sortS es, isName z = true) ∧ (sortS es).Nodup), decide_eq_false fun e => e3 (by
      have := sortS_length es
      rw [e] at this
      exact List.eq_nil_of_length_eq_zero this.symm)]
    rfl
  · have h1 := dedup_length (sortD (rdLines rs))
    rw [sortD_length] at h1
    exact Nat.lt_of_le_of_lt h1 hp.2.2.1.2
  · show isLine t (sortS es) = true
    rw [isLine_congr (es' := es) fun x => mem_sortS]
    exact (rd_line h (mem_told.mp ht)).2
/-- the law's lines of rounds -/
def lawLines (rs : List Rd) : List Ln := sortD (rs.foldl (fun f r => f ++ ((r.2.map fun n => (⟨"call", r.1, n⟩ : Ln)) ++ (r.1.filter fun n => !decide (n ∈ r.2)).map fun n => (⟨"off", r.2, n⟩ : Ln)).filter fun t => !decide (t ∈ f)) [])
theorem nodup_mapI {α β : Type} {f : α → β} (hf : ∀ a b, f a = f b → a = b) : ∀ {l : List α}, l.Nodup → (l.map f).Nodup
  | [], _ => List.nodup_nil
  | a :: l, h => by
    obtain ⟨h1, h2⟩ := List.nodup_cons.mp h
    rw [List.map_cons]
    refine List.nodup_cons.mpr ⟨fun hm => ?_, nodup_mapI hf h2⟩
    obtain ⟨b, hb, e⟩ := List.mem_map.mp hm
    exact h1 (hf _ _ e ▸ hb)
theorem block_nodup {r : Rd} (h1 : r.1.Nodup) (h2 : r.2.Nodup) : ((r.2.map fun n => (⟨"call", r.1, n⟩ : Ln)) ++ (r.1.filter fun n => !decide (n ∈ r.2)).map fun n => (⟨"off", r.2, n⟩ : Ln)).Nodup := by
  refine List.nodup_append.mpr ⟨nodup_mapI (fun a b e => by cases e; rfl) h2, nodup_mapI (fun a b e => by cases e; rfl) ((List.filter_sublist).nodup h1), fun a ha b hb e => ?_⟩
  obtain ⟨x, _, rfl⟩ := List.mem_map.mp ha
  obtain ⟨y, _, rfl⟩ := List.mem_map.mp hb
  exact call_ne_off (congrArg T3.a e)
theorem lawLines_fold {es : List Str} : ∀ (rs : List Rd) (f : List Ln), (∀ r ∈ rs, isRoundP r es = true) → f.Nodup →
    (rs.foldl (fun f r => f ++ ((r.2.map fun n => (⟨"call", r.1, n⟩ : Ln)) ++ (r.1.filter fun n => !decide (n ∈ r.2)).map fun n => (⟨"off", r.2, n⟩ : Ln)).filter fun t => !decide (t ∈ f)) f).Nodup ∧
    ∀ t, t ∈ rs.foldl (fun f r => f ++ ((r.2.map fun n => (⟨"call", r.1, n⟩ : Ln)) ++ (r.1.filter fun n => !decide (n ∈ r.2)).map fun n => (⟨"off", r.2, n⟩ : Ln)).filter fun t => !decide (t ∈ f)) f ↔ t ∈ f ∨ t ∈ rdLines rs
  | [], f, _, hf => ⟨hf, fun t => by simp [rdLines]⟩
  | r :: rs, f, h, hf => by
    obtain ⟨f1, f2⟩ := roundP (h r List.mem_cons_self)
    have hb := block_nodup (fieldP f1).2.1 (fieldP f2).2.1
    rw [List.foldl_cons]
    have er : rdLines (r :: rs) = ((r.2.map fun n => (⟨"call", r.1, n⟩ : Ln)) ++ (r.1.filter fun n => !decide (n ∈ r.2)).map fun n => (⟨"off", r.2, n⟩ : Ln)) ++ rdLines rs := by
      unfold rdLines
      rw [List.flatMap_cons]
    generalize ((r.2.map fun n => (⟨"call", r.1, n⟩ : Ln)) ++ (r.1.filter fun n => !decide (n ∈ r.2)).map fun n => (⟨"off", r.2, n⟩ : Ln)) = bl at hb er
    have nd : (f ++ bl.filter fun t => !decide (t ∈ f)).Nodup := List.nodup_append.mpr ⟨hf, (List.filter_sublist).nodup hb, fun a ha b hb e => by
      have := (List.mem_filter.mp hb).2
      rw [← e, decide_eq_true ha] at this
      cases this⟩
    obtain ⟨i1, i2⟩ := lawLines_fold rs _ (fun r hr => h r (List.mem_cons_of_mem _ hr)) nd
    refine ⟨i1, fun t => ?_⟩
    rw [i2, er, List.mem_append, List.mem_append, List.mem_filter]
    constructor
    · rintro ((h | h) | h)
      · exact .inl h
      · exact .inr (.inl h.1)
      · exact .inr (.inr h)
    · rintro (h | h | h)
      · exact .inl (.inl h)
      · by_cases hm : t ∈ f
        · exact .inl (.inl hm)
        · exact .inl (.inr ⟨h, by simpa using hm⟩)
      · exact .inr h
theorem law_lines {es : List Str} {rs : List Rd} (h : ∀ r ∈ rs, isRoundP r es = true) : lawLines rs = dedup (sortD (rdLines rs)) := by
  obtain ⟨h1, h2⟩ := lawLines_fold rs [] h List.nodup_nil
  unfold lawLines
  refine sortD_eq ?_ (List.Pairwise.sublist (dedup_sub _) (sortD_sorted _))
  have hm : ∀ x, x ∈ dedup (sortD (rdLines rs)) ↔ x ∈ rs.foldl (fun f r => f ++ ((r.2.map fun n => (⟨"call", r.1, n⟩ : Ln)) ++ (r.1.filter fun n => !decide (n ∈ r.2)).map fun n => (⟨"off", r.2, n⟩ : Ln)).filter fun t => !decide (t ∈ f)) [] := fun x => by
    rw [h2, mem_dedup, mem_sortD]
    simp
  have n2 := dedup_nodup (sortD (rdLines rs))
  exact perm_sub2 n2 (fun x hx => (hm x).mp hx) (sub_len h1 fun x hx => (hm x).mpr hx)
/-- rounds that some panel fits -/
def KeptR (es : List Str) (rs : List Rd) : Prop := Kept es (rdLines rs)
theorem KeptR.less {es : List Str} {rs rs' : List Rd} (h : ∀ r ∈ rs, r ∈ rs') (k : KeptR es rs') : KeptR es rs := Kept.less (rd_mono h) k
theorem kept_congr {es : List Str} {ls ls' : List Ln} (h : ∀ t, t ∈ ls ↔ t ∈ ls') : Kept es ls ↔ Kept es ls' := ⟨fun k => k.less fun t ht => (h t).mpr ht, fun k => k.less fun t ht => (h t).mp ht⟩
theorem reach_perm {es es' : List Str} {offs : List Off} {x : Str} (h : ∀ x, x ∈ es → x ∈ es') (r : Reach es offs x) : Reach es' offs x := r _ fun y hy k => Reach.step (h y hy) k
theorem kept_perm {es es' : List Str} {ls : List Ln} (h : ∀ x, x ∈ es ↔ x ∈ es') : Kept es ls ↔ Kept es' ls :=
  ⟨fun k => ⟨fun x hx => reach_perm (fun x => (h x).mp) (k.1 x ((h x).mpr hx)), fun t ht e x hx => reach_perm (fun x => (h x).mp) (k.2 t ht e x ((h x).mpr hx))⟩,
   fun k => ⟨fun x hx => reach_perm (fun x => (h x).mpr) (k.1 x ((h x).mp hx)), fun t ht e x hx => reach_perm (fun x => (h x).mpr) (k.2 t ht e x ((h x).mp hx))⟩⟩
theorem keptB {C : Addr} {es : List Str} {rs : List Rd} (hn : es.Nodup) : barF (rdBook C es rs).names (rdBook C es rs).told = none ↔ KeptR es rs := by
  refine (bar_none (ns := (rdBook C es rs).names) (show (sortS es).Nodup from sortS_nodup hn)).trans ?_
  exact (kept_perm (fun x => mem_sortS)).trans (kept_congr fun t => mem_told)
theorem keptL {es : List Str} {rs : List Rd} (hn : es.Nodup) (h : ∀ r ∈ rs, isRoundP r es = true) : lawSome es (lawLines rs) ≠ none ↔ KeptR es rs := by
  rw [law_some hn, law_lines h]
  exact kept_congr fun t => by rw [mem_dedup, mem_sortD]
end T82

namespace T82
open PySem L2 D1 Rp
/-! ### who gets a card, and books that are kept: the plain law -/
def firstIn (row f : List Str) : Option Str := (row.filter fun n => decide (n ∈ f)).head?
theorem first_sub {f s : List Str} {x : Str} (hx : x ∈ s) (hs : ∀ y ∈ s, y ∈ f) : ∀ {row : List Str}, firstIn row f = some x → firstIn row s = some x
  | [], h => by cases h
  | a :: row, h => by
    unfold firstIn at *
    by_cases ha : a ∈ f
    · rw [List.filter_cons_of_pos (p := fun n => decide (n ∈ f)) (decide_eq_true ha)] at h
      have e : a = x := Option.some.inj h
      subst e
      rw [List.filter_cons_of_pos (p := fun n => decide (n ∈ s)) (decide_eq_true hx)]
      rfl
    · rw [List.filter_cons_of_neg (p := fun n => decide (n ∈ f)) (by show ¬ decide (a ∈ f) = true; rw [decide_eq_false ha]; simp)] at h
      rw [List.filter_cons_of_neg (p := fun n => decide (n ∈ s)) (by show ¬ decide (a ∈ s) = true; rw [decide_eq_false fun z => ha (hs a z)]; simp)]
      exact first_sub hx hs h
theorem first_some {row f es : List Str} (pm : row.Perm es) (hf : ∀ y ∈ f, y ∈ es) (hn : f ≠ []) : ∃ x, firstIn row f = some x ∧ x ∈ f := by
  unfold firstIn
  cases f with
  | nil => exact absurd rfl hn
  | cons y f =>
    have hy : y ∈ row.filter fun n => decide (n ∈ y :: f) := List.mem_filter.mpr ⟨pm.mem_iff.mpr (hf y List.mem_cons_self), decide_eq_true List.mem_cons_self⟩
    cases e : row.filter fun n => decide (n ∈ y :: f) with
    | nil => rw [e] at hy; cases hy
    | cons x r =>
      have hx : x ∈ row.filter fun n => decide (n ∈ y :: f) := by rw [e]; exact List.mem_cons_self
      exact ⟨x, rfl, of_decide_eq_true (List.mem_filter.mp hx).2⟩
/-- in the row the entry is the first of the field -/
def metF (row f : List Str) (x : Str) : Bool := decide (firstIn row f = some x)
def lineKept (t : Ln) (rows : List (List Str)) : Bool := if t.a = "call" then rows.any fun r => metF r t.b t.c else !rows.any fun r => metF r (t.b ++ [t.c]) t.c
def breakF (t : Ln) (rows : List (List Str)) : Option (Ln × Option Int) :=
  if t.a = "call" then (if (rows.filter fun r => metF r t.b t.c) = [] then some (t, none) else none)
  else ((enumd rows).find? fun p => metF p.2 (t.b ++ [t.c]) t.c).map fun p => (t, some p.1)
theorem mem_enumd {α : Type} {l : List α} {p : Int × α} (h : p ∈ enumd l) : p.2 ∈ l := by
  have : p.2 ∈ (enumd l).map (·.2) := List.mem_map.mpr ⟨p, h, rfl⟩
  rwa [enumd_snd] at this
theorem mem_enumd2 {α : Type} {l : List α} {x : α} (h : x ∈ l) : ∃ i, (i, x) ∈ enumd l := by
  rw [← enumd_snd l] at h
  obtain ⟨⟨i, y⟩, h1, rfl⟩ := List.mem_map.mp h
  exact ⟨i, h1⟩
theorem break_none {t : Ln} {rows : List (List Str)} : (breakF t rows).isNone = lineKept t rows := by
  unfold breakF lineKept
  by_cases e : t.a = "call"
  · rw [if_pos e, if_pos e]
    by_cases h : (rows.filter fun r => metF r t.b t.c) = []
    · rw [if_pos h]
      rw [filter_nil_iff] at h
      have : (rows.any fun r => metF r t.b t.c) = false := List.any_eq_false.mpr fun x hx => by rw [h x hx]; simp
      rw [this]; rfl
    · rw [if_neg h]
      cases ha : rows.any fun r => metF r t.b t.c with
      | true => rfl
      | false => exact absurd (filter_nil_iff.mpr fun x hx => Bool.eq_false_iff.mpr (List.any_eq_false.mp ha x hx)) h
  · rw [if_neg e, if_neg e, Option.isNone_map]
    cases ha : rows.any fun r => metF r (t.b ++ [t.c]) t.c with
    | false =>
      have : (enumd rows).find? (fun p => metF p.2 (t.b ++ [t.c]) t.c) = none := List.find?_eq_none.mpr fun p hp => List.any_eq_false.mp ha p.2 (mem_enumd hp)
      rw [this]; rfl
    | true =>
      obtain ⟨x, hx, h2⟩ := List.any_eq_true.mp ha
      obtain ⟨i, hi⟩ := mem_enumd2 hx
      cases hf : (enumd rows).find? fun p => metF p.2 (t.b ++ [t.c]) t.c with
      | none => exact absurd h2 (List.find?_eq_none.mp hf _ hi)
      | some p => rfl
def firstBreakF (ls : List Ln) (rows : List (List Str)) : Option (Ln × Option Int) := (ls.find? fun t => !lineKept t rows).bind fun t => breakF t rows
def keepsF (ls : List Ln) (rows : List (List Str)) : Bool := ls.all fun t => lineKept t rows
theorem first_break_none {ls : List Ln} {rows : List (List Str)} : (firstBreakF ls rows).isNone = keepsF ls rows := by
  unfold firstBreakF keepsF
  cases h : ls.find? fun t => !lineKept t rows with
  | none =>
    have : (ls.all fun t => lineKept t rows) = true := List.all_eq_true.mpr fun t ht => by
      have := List.find?_eq_none.mp h t ht
      simpa using this
    rw [this]; rfl
  | some t =>
    have h1 := List.find?_some h
    have h2 := List.mem_of_find?_eq_some h
    have : (ls.all fun t => lineKept t rows) = false := by
      cases ha : ls.all fun t => lineKept t rows with
      | false => rfl
      | true => rw [List.all_eq_true.mp ha t h2] at h1; cases h1
    rw [this]
    show (breakF t rows).isNone = false
    rw [break_none]
    simpa using h1
/-- the cards that rows give on a field -/
def cardsF (rows : List (List Str)) (f : List Str) : List Str := sortS (dds (rows.flatMap fun r => (r.filter fun n => decide (n ∈ f)).take 1))
theorem mem_cards {rows : List (List Str)} {f : List Str} {x : Str} : x ∈ cardsF rows f ↔ ∃ r ∈ rows, firstIn r f = some x := by
  unfold cardsF firstIn
  rw [mem_sortS, mem_dds, List.mem_flatMap]
  refine exists_congr fun r => and_congr Iff.rfl ?_
  cases r.filter fun n => decide (n ∈ f) with
  | nil => simp
  | cons a l =>
    show x ∈ [a] ↔ some a = some x
    rw [List.mem_singleton]
    exact ⟨fun h => by rw [h], fun h => (Option.some.inj h).symm⟩
theorem sorted_same {l m : List Str} (h1 : l.Nodup) (h2 : m.Nodup) (s1 : SortedS l) (s2 : SortedS m) (h : ∀ x, x ∈ l ↔ x ∈ m) : l = m :=
  sorted_unique (perm_sub2 h1 (fun x hx => (h x).mp hx) (sub_len h2 fun x hx => (h x).mpr hx)) s1 s2
theorem cards_sorted (rows : List (List Str)) (f : List Str) : SortedS (cardsF rows f) := sortS_sorted _
theorem cards_nodup (rows : List (List Str)) (f : List Str) : (cardsF rows f).Nodup := sortS_nodup (nodup_dds _)
theorem fit_keeps {es : List Str} {rs : List Rd} {rows : List (List Str)} (h : ∀ r ∈ rs, isRoundP r es = true) (hr : ∀ r ∈ rows, r.Perm es) : keepsF (rdLines rs) rows = decide (∀ r ∈ rs, cardsF rows r.1 = r.2) := by
  unfold keepsF
  rw [Bool.eq_iff_iff, List.all_eq_true, decide_eq_true_eq]
  constructor
  · intro hk r hrr
    obtain ⟨f1, f2⟩ := roundP (h r hrr)
    obtain ⟨n1, d1', s1, i1, e1⟩ := fieldP f1
    obtain ⟨n2, d2, s2, i2, e2⟩ := fieldP f2
    refine sorted_same (cards_nodup _ _) d2 (cards_sorted _ _) (by rw [s2]; exact sortS_sorted _) fun x => ?_
    rw [mem_cards]
    constructor
    · rintro ⟨row, hrow, hx⟩
      refine Classical.byContradiction fun hc => ?_
      obtain ⟨y, hy, hyf⟩ := first_some (hr row hrow) i1 e1
      rw [hx] at hy
      cases hy
      have hl := hk ⟨"off", r.2, x⟩ (mem_rdLines.mpr ⟨r, hrr, .inr ⟨rfl, rfl, hyf, hc⟩⟩)
      unfold lineKept at hl
      rw [if_neg (fun z => call_ne_off (show ("call" : Str) = "off" from (show ("off" : Str) = "call" from z).symm)), Bool.not_eq_true'] at hl
      have := List.any_eq_false.mp hl row hrow
      refine this (decide_eq_true (first_sub (List.mem_append_right _ List.mem_cons_self) (fun y hy => ?_) hx))
      rcases List.mem_append.mp hy with hy | hy
      · exact i2 y hy
      · rw [List.mem_singleton.mp hy]; exact hyf
    · intro hx
      have hl := hk ⟨"call", r.1, x⟩ (mem_rdLines.mpr ⟨r, hrr, .inl ⟨rfl, rfl, hx⟩⟩)
      unfold lineKept at hl
      rw [if_pos rfl] at hl
      obtain ⟨row, hrow, hm⟩ := List.any_eq_true.mp hl
      exact ⟨row, hrow, of_decide_eq_true hm⟩
  · intro hc t ht
    obtain ⟨r, hrr, k⟩ := mem_rdLines.mp ht
    obtain ⟨f1, f2⟩ := roundP (h r hrr)
    obtain ⟨n1, d1', s1, i1, e1⟩ := fieldP f1
    obtain ⟨n2, d2, s2, i2, e2⟩ := fieldP f2
    have hcr := hc r hrr
    obtain ⟨a, b, c⟩ := t
    unfold lineKept
    rcases k with ⟨k1, k2, k3⟩ | ⟨k1, k2, k3, k4⟩
    · have k1 : a = "call" := k1
      have k2 : b = r.1 := k2
      have k3 : c ∈ r.2 := k3
      subst k1 k2
      rw [if_pos rfl]
      rw [← hcr] at k3
      obtain ⟨row, hrow, hm⟩ := mem_cards.mp k3
      exact List.any_eq_true.mpr ⟨row, hrow, decide_eq_true hm⟩
    · have k1 : a = "off" := k1
      have k2 : b = r.2 := k2
      have k3 : c ∈ r.1 := k3
      have k4 : c ∉ r.2 := k4
      subst k1 k2
      rw [if_neg (fun z => call_ne_off (show ("call" : Str) = "off" from (show ("off" : Str) = "call" from z).symm)), Bool.not_eq_true']
      refine List.any_eq_false.mpr fun row hrow hm => ?_
      have hm := of_decide_eq_true hm
      obtain ⟨y, hy, hyf⟩ := first_some (hr row hrow) i1 e1
      have hyc : y ∈ r.2 := by rw [← hcr]; exact mem_cards.mpr ⟨row, hrow, hy⟩
      have h3 := first_sub (s := r.2 ++ [c]) (List.mem_append_left _ hyc) (fun z hz => by
        rcases List.mem_append.mp hz with hz | hz
        · exact i2 z hz
        · rw [List.mem_singleton.mp hz]; exact k3) hy
      have h4 := hm.symm.trans h3
      have h5 : c = y := Option.some.inj h4
      exact k4 (h5 ▸ hyc)
theorem keeps_congr {ls ls' : List Ln} {rows : List (List Str)} (h : ∀ t, t ∈ ls ↔ t ∈ ls') : keepsF ls rows = keepsF ls' rows := by
  unfold keepsF
  rw [Bool.eq_iff_iff, List.all_eq_true, List.all_eq_true]
  exact ⟨fun k t ht => k t ((h t).mpr ht), fun k t ht => k t ((h t).mp ht)⟩
end T82

namespace T82
open PySem L2 D1 Rp
/-! ### books: what is walked -/
instance {C : Addr} : Nn1 (Pan C) := ⟨fun ⟨p, _, _, _, _, e, _⟩ h => by subst e; cases h⟩
instance {C : Addr} : Nn1 (Bk C) := ⟨fun ⟨p, _, _, _, e, _⟩ h => by subst e; cases h⟩
theorem EvF.bl {X : Cx} {σ : L2.St} {G : Hp} {pos : Pos} {i j} : EvF X (.Constant (.bool i) j pos) σ G (i : Bool) := fun G1 H1 Q s1 s2 k => WE.of pe_bl (k G1 H1 _ (GrM.refl s2) rfl)
/-! ### what is walked: what the program does -/
def OffsOk (offs : List Off) : Prop := (∀ o ∈ offs, Lok o.1 ∧ Zok o.2) ∧ offs.length < 100000
theorem OffsOk.sz {offs : List Off} (h : OffsOk offs) : offs.length < sizeLine := Nat.lt_trans h.2 (by decide)
def WishOk (ws : List (List Str × Str)) : Prop := (∀ w ∈ ws, Lok w.1 ∧ Zok w.2) ∧ ws.length ≤ 2
theorem offs_ok {ls : List Ln} {ws : List (List Str × Str)} (h : LnsOk ls) (hw : WishOk ws) : OffsOk (offsOf ls ws) := by
  constructor
  · intro o ho
    unfold offsOf at ho
    rcases List.mem_append.mp ho with ho | ho
    · obtain ⟨t, ht, rfl⟩ := List.mem_map.mp ho
      have := h.1 t (List.mem_filter.mp ht).1
      exact ⟨this.2.1, this.2.2⟩
    · obtain ⟨w, hw', ho⟩ := List.mem_flatMap.mp ho
      obtain ⟨x, hx, rfl⟩ := List.mem_map.mp ho
      obtain ⟨h1, h2⟩ := hw.1 w hw'
      exact ⟨⟨fun z hz => by rw [List.mem_singleton.mp hz]; exact h2, by show 1 < 64; decide⟩, h1.1 x (List.mem_filter.mp hx).1⟩
  · unfold offsOf
    rw [List.length_append, List.length_map]
    have h1 := List.length_filter_le (fun t : Ln => decide (t.a = "off")) ls
    have h2 := h.2
    have h3 : ∀ ws : List (List Str × Str), (∀ w ∈ ws, Lok w.1 ∧ Zok w.2) → (ws.flatMap fun w => (w.1.filter fun x => !decide (x = w.2)).map fun x => (([w.2], x) : Off)).length ≤ ws.length * 64 := fun ws => by
      induction ws with
      | nil => intro _; exact Nat.le_refl _
      | cons w ws ih =>
        intro hh
        rw [List.flatMap_cons, List.length_append, List.length_map, List.length_cons]
        have := ih fun x hx => hh x (List.mem_cons_of_mem _ hx)
        have := List.length_filter_le (fun x => !decide (x = w.2)) w.1
        have := (hh w List.mem_cons_self).1.2
        omega
    have h4 := h3 ws hw.1
    have h5 := hw.2
    omega
def barredF (offs : List Off) (row : List Str) : List Str := (offs.filter fun o => decide ((o.1.filter fun x => decide (x ∈ row)) = [])).map fun o => o.2
theorem mem_barred {offs : List Off} {row : List Str} {x : Str} : decide (x ∈ barredF offs row) = !okAt offs row x := by
  rw [Bool.eq_iff_iff, decide_eq_true_eq, Bool.not_eq_true']
  unfold barredF
  rw [List.mem_map]
  constructor
  · rintro ⟨o, ho, rfl⟩
    obtain ⟨h1, h2⟩ := List.mem_filter.mp ho
    refine Bool.eq_false_iff.mpr fun hk => ?_
    obtain ⟨z, hz, hr⟩ := okAt_iff.mp hk o h1 rfl
    have := filter_nil_iff.mp (of_decide_eq_true h2) z hz
    rw [decide_eq_true hr] at this
    cases this
  · intro hk
    refine Classical.byContradiction fun hn => ?_
    refine Bool.eq_false_iff.mp hk (okAt_iff.mpr fun o ho e => Classical.byContradiction fun hz => hn ⟨o, List.mem_filter.mpr ⟨ho, decide_eq_true (filter_nil_iff.mpr fun z hz' => decide_eq_false fun hr => hz ⟨z, hz', hr⟩)⟩, e⟩)
section
variable {P : Program} {w : World} {K : PySem.W.Frag} {mg : Str → Option Value} {base : Heap} {f C CP : Addr} {fd : FuncData}
theorem c_offs_of (D : C8.Def K mg "offs_of" sOffsOf f fd) (b : Binds K fd ["book", "wishes"] []) (TB : BkT K mg C) :
    C8.Cal P w K mg base 1 "offs_of" (P2 (fun (d : Bk C) ws => LnsOk d.told ∧ WishOk ws) (fun d ws => offsOf d.told ws)) [] := by
  refine fn2 D b scOffsOf rfl fun cdv A outer s H E G u v d ws hr r1 r2 h => ?_
  have a6 : sizeLine = 16777216 := rfl
  refine bl_asgIf3 2 3 4 5 (f := fun t : Ln => ((t.b, t.c) : Off)) (t := fun t : Ln => decide (t.a = "off")) (EI.list (Ev.fld (bkTo TB d) (Ev.v 0 rfl r1))) (fun t ht G' x y z s1 q1 q2 q3 s H C cl fp => ET.eqD hr.units (Ev.v 3 rfl q1) Ev.str (h.1.1 t ht).1.2 zok_off.2) (fun t ht _ G' x y z s1 q1 q2 q3 s H C cl fp => Ev.tup2 (Ev.v 4 rfl q2) (Ev.v 5 rfl q3))
    h.1.sz scOffsOf.nd (blkOk_by (N := nOffsOf) (sc := C8.fnScope sOffsOf) (by decide +kernel)) (fun G1 v1 s1 q1 => ?_)
    (fun s H C cl fp => pg_three rfl scOffsOf.nd rfl rfl rfl (by first | exact Or.inl rfl | exact Or.inr rfl) (by first | exact Or.inl rfl | exact Or.inr rfl) (by first | exact Or.inl rfl | exact Or.inr rfl) (by first | exact .inr rfl | exact .inl rfl) (by first | exact .inr rfl | exact .inl rfl) (by first | exact .inr rfl | exact .inl rfl))
  have hb := offs_ok h.1 h.2
  refine Bl.for_ (fun i σ' G' => ∃ fv t3 t4 t5 t6 t7, σ' = [some u, some v, some fv, t3, t4, t5, t6, t7] ∧ rp G' fv (offsOf d.told (ws.take i)))
    (EI.list (Ev.v 1 rfl (rup s1 r2))) (tgB2 (K := K)) (pg_two (i := 6) (j := 5) rfl scOffsOf.nd rfl rfl (by first | exact Or.inl rfl | exact Or.inr rfl) (by first | exact Or.inl rfl | exact Or.inr rfl) (by first | exact .inl rfl | exact .inr rfl) (by first | exact .inl rfl | exact .inr rfl))
    (fun G2 s2 => ⟨v1, _, _, _, _, _, rfl, by rw [List.take_zero]; unfold offsOf; rw [List.flatMap_nil, List.append_nil]; exact rup s2 q1⟩) ?_ ?_ PassesOwn.never
  · rintro i c σ1 G2 hc s12 ⟨fv, t3, t4, t5, t6, t7, rfl, rf⟩ G3 σ2 s23 ⟨fw, ew, rfw, rew, rfl⟩
    have hw := h.2.1 c (List.mem_of_getElem? hc)
    have e5 : ws.take (i + 1) = ws.take i ++ [c] := by rw [List.take_succ, hc]; rfl
    refine Bl.asg 2 (Ev.eq (Ev.cat (Ev.v 2 rfl (rup s23 rf)) (Ev.lcIf 7 (t := fun x => !decide (x = c.2)) (f := fun x => (([c.2], x) : Off)) (EI.list (Ev.v 6 rfl rfw)) (fun x hx G' v' s1 r' s H C cl fp => ET.neD hr.units (Ev.v 7 rfl r') (Ev.v 5 rfl (rup s1 rew)) (hw.1.1 x hx).2 hw.2.2)
      (fun x hx _ G' v' s1 r' s H C cl fp => Ev.tup2 (Ev.lst (EL.cons (Ev.v 5 rfl (rup s1 rew)) EL.nil) (show 1 ≤ 1000 by decide)) (Ev.v 7 rfl r')) (sz64 hw.1.2) scOffsOf.nd (blkOk_by (N := nOffsOf) (sc := C8.fnScope sOffsOf) (by decide +kernel))) ?_) (show _ = offsOf d.told (ws.take (i + 1)) from ?_)) (fun G4 v4 s4 r4 => Bl.nil fun G5 s5 => ⟨v4, _, _, _, _, _, rfl, rup s5 r4⟩) scOffsOf.nd
    · have h1 := (offs_ok (ws := ws.take i) h.1 ⟨fun w hw => h.2.1 w (List.mem_of_mem_take hw), Nat.le_trans (by rw [List.length_take]; exact Nat.min_le_right _ _) h.2.2⟩).2
      have h2 := List.length_filter_le (fun x => !decide (x = c.2)) c.1
      have h3 := hw.1.2
      rw [List.length_map]
      omega
    · rw [e5]
      unfold offsOf
      rw [List.flatMap_append, List.append_assoc]
      simp
  · rintro σ1 G2 s12 ⟨fv, t3, t4, t5, t6, t7, rfl, rf⟩
    rw [List.take_length] at rf
    exact Bl.rv (Ev.v 2 rfl rf)
theorem c_walkedF (D : C8.Def K mg "walked" sWalked f fd) (b : Binds K fd ["names", "offs"] []) (B : Bt mg) : C8.Cal P w K mg base 1 "walked" (P2F (fun ns offs => Lok ns ∧ OffsOk offs) walkedF) [] := by
  refine fn2F D b scWalked rfl fun cdv A outer s H E G u v ns offs Q hr sG r1 r2 ⟨hn, ho⟩ kk => ?_
  have a6 : sizeLine = 16777216 := rfl
  refine ws_asg3W 2 3 4 (EvF.ap (d := (⟨[], ns, true⟩ : T3 (List Str) (List Str) Bool)) sG (EvF.tup3 EvF.nil (EvF.listS B (Ev.v 0 rfl r1)) EvF.bl) fun G2 H2 w2 g2 q0 => ?_) scWalked.nd
  obtain ⟨tp, x, y, z, rfl, ht0, q1, q2, q3⟩ := q0
  refine ⟨tp, x, y, z, rfl, SqT.of (g2.s _ _ (dif_same _ _ ht0)), ?_⟩
  cases q3
  have r1' := rup g2.g r1
  have r2' := rup g2.g r2
  refine ws_while (fun m σ' G' H' => ∃ rv tv, ∃ row rest : List Str, ∃ nw : Bool, ∃ t5 t6 t7 t8 t9, σ' = [some u, some v, some rv, some tv, some (.bl nw), t5, t6, t7, t8, t9] ∧ Gr G H G' H' ∧ Same G2 G' ∧ rp (dif G' H) rv row ∧ rp (dif G' H) tv rest ∧ (∀ x ∈ row, Zok x) ∧ (∀ x ∈ rest, Zok x) ∧ row.length + rest.length = ns.length ∧
    ((nw = true ∧ rest.length < m ∧ wk offs m row rest = walkedF ns offs) ∨ (nw = false ∧ (row, rest) = walkedF ns offs))) (ns.length + 1)
    ⟨G2, g2.s, x, y, [], ns, true, none, none, none, none, none, rfl, g2, Same.refl _, q1, q2, fun z hz => (by cases hz), hn.1, by simp, .inl ⟨rfl, Nat.lt_succ_self _, rfl⟩⟩ ?_
  rintro m σ1 G3 H3 s3 ⟨rv, tv, row, rest, nw, t5, t6, t7, t8, t9, rfl, g3, sA, rr', rt', hrow, hrest, hlen, hst⟩
  have rr := rup dif_same rr'
  have rt := rup dif_same rt'
  refine ET.ap s3 (ET.val (Ev.v 4 rfl (show rp G3 (.bl nw) nw from rfl))) fun G4 H4 g4 => ?_
  rcases hst with ⟨rfl, hm, hw⟩ | ⟨rfl, hw⟩
  · rw [if_pos rfl]
    have l64 := hn.2
    have lrow : Lok row := ⟨hrow, by omega⟩
    have lrest : Lok rest := ⟨hrest, by omega⟩
    have g34 := g3.trans g4
    refine ws_asg 5 (d := barredF offs row) (Same.refl _) g4.s (Ev.lcIf2 6 7 (f := fun o : Off => o.2) (t := fun o => decide ((o.1.filter fun x => decide (x ∈ row)) = [])) (EI.list (Ev.v 1 rfl (rup (sA.trans g4.g) r2'))) (fun o hoo G' u' w' s1 q1 q2 s H C cl fp => ET.eqD hr.units (Ev.lcSel 8 (t := fun x => decide (x ∈ row)) (EI.list (Ev.v 6 rfl q1)) (fun x hx G'' v'' s2 q3 s H C cl fp => ET.inD hr.units65 (Ev.v 8 rfl q3) (Ev.v 2 rfl (rup ((g4.g.trans s1).trans s2) rr)) ((ho.1 o hoo).1.1 x hx).2 lrow.lay)
        (sz64 (ho.1 o hoo).1.2) scWalked.nd (blkOk_by (N := nWalked) (sc := relS _ (C8.fnScope sWalked)) (by decide +kernel))) Ev.nil (fun a ha => ((ho.1 o hoo).1.1 a (List.mem_filter.mp ha).1).2) lay_nil)
      (fun o hoo _ G' u' w' s1 q1 q2 s H C cl fp => Ev.v 7 rfl q2) ho.sz scWalked.nd (blkOk_by (N := nWalked) (sc := C8.fnScope sWalked) (by decide +kernel))
      (fun s H C cl fp => pg_two rfl scWalked.nd rfl rfl (by first | exact Or.inl rfl | exact Or.inr rfl) (by first | exact Or.inl rfl | exact Or.inr rfl) (by first | exact .inr rfl | exact .inl rfl) (by first | exact .inr rfl | exact .inl rfl))) (fun G5 H5 bv g5 rb => ?_) scWalked.nd
    have lb : Da.lay (barredF offs row) := fun x hx => by
      unfold barredF at hx
      obtain ⟨o, hoo, rfl⟩ := List.mem_map.mp hx
      exact (ho.1 o (List.mem_filter.mp hoo).1).2.2
    have e1 : (rest.filter fun x => !decide (x ∈ barredF offs row)) = rest.filter (okAt offs row) := List.filter_congr fun x _ => by rw [mem_barred, Bool.not_not]
    have e2 : (rest.filter fun x => decide (x ∈ barredF offs row)) = rest.filter fun x => !okAt offs row x := List.filter_congr fun x _ => mem_barred
    refine ws_asgSel 9 8 (t := fun x => !decide (x ∈ barredF offs row)) (Same.refl _) g5.s (EI.list (Ev.v 3 rfl (rup (g4.trans g5).g rt))) (fun x hx G' v' s1 r' s H C cl fp => ET.niD hr.units65 (Ev.v 8 rfl r') (Ev.v 5 rfl (rup s1 rb)) (hrest x hx).2 lb) (fun G6 H6 fv g6 rf => ?_) (sz64 lrest.2) scWalked.nd (blkOk_by (N := nWalked) (sc := C8.fnScope sWalked) (by decide +kernel))
    rw [e1] at rf
    have hfl := List.length_filter_le (okAt offs row) rest
    refine ws_asgW 2 (EvF.ap (d := row ++ rest.filter (okAt offs row)) g6.s (EvF.catS (Ev.v 2 rfl (rup ((g4.trans g5).trans g6).g rr)) (Ev.v 9 rfl rf) (by omega)) fun G7 H7 rv2 g7 rr2 => ?_) scWalked.nd
    refine ws_asgSelF 3 8 (t := fun x => decide (x ∈ barredF offs row)) (Same.refl _) g7.s (EI.list (Ev.v 3 rfl (rup ((g4.trans g5).trans (g6.trans g7)).g rt))) (fun x hx G' v' s1 r' s H C cl fp => ET.inD hr.units65 (Ev.v 8 rfl r') (Ev.v 5 rfl (rup ((g6.trans g7).g.trans s1) rb)) (hrest x hx).2 lb) (fun G8 H8 tv2 g8 rt2 => ?_) (sz64 lrest.2) scWalked.nd (blkOk_by (N := nWalked) (sc := C8.fnScope sWalked) (by decide +kernel))
    rw [e2] at rt2
    refine ws_asg 4 (d := !decide (rest.filter (okAt offs row) = [])) (Same.refl _) g8.s (Ev.neD hr.units (Ev.v 9 rfl (rup (g7.trans g8).g rf)) Ev.nil (fun a ha => (hrest a (List.mem_filter.mp ha).1).2) lay_nil) (fun G9 H9 nv g9 rn => ?_) scWalked.nd
    cases rn
    have p2 := (filter_perm (okAt offs row) rest).length_eq
    rw [List.length_append] at p2
    have gA : Gr G H G9 H9 := (((((g34.trans g5).trans g6).trans g7).trans g8).trans g9)
    have key : ∃ m', m' < m ∧ (((!decide (rest.filter (okAt offs row) = [])) = true ∧ (rest.filter fun x => !okAt offs row x).length < m' ∧ wk offs m' (row ++ rest.filter (okAt offs row)) (rest.filter fun x => !okAt offs row x) = walkedF ns offs) ∨ ((!decide (rest.filter (okAt offs row) = [])) = false ∧ (row ++ rest.filter (okAt offs row), rest.filter fun x => !okAt offs row x) = walkedF ns offs)) := by
      cases m with
      | zero => omega
      | succ k =>
        unfold wk at hw
        by_cases e : rest.filter (okAt offs row) = []
        · rw [if_pos e] at hw
          refine ⟨0, Nat.succ_pos _, .inr ⟨by rw [decide_eq_true e]; rfl, ?_⟩⟩
          rw [e, List.append_nil, ← hw]
          have : (rest.filter fun x => !okAt offs row x) = rest := List.filter_eq_self.mpr fun x hx => by rw [filter_nil_iff.mp e x hx]; rfl
          rw [this]
        · rw [if_neg e] at hw
          have := List.length_pos_iff.mpr e
          exact ⟨k, Nat.lt_succ_self _, .inl ⟨by rw [decide_eq_false e]; rfl, by omega, hw⟩⟩
    obtain ⟨m', hlt, hh⟩ := key
    refine ws_nil ⟨m', G9, hlt, gA.s, rv2, tv2, row ++ rest.filter (okAt offs row), rest.filter fun x => !okAt offs row x, !decide (rest.filter (okAt offs row) = []), some bv, t6, t7, t8, some fv, rfl, gA, sA.trans (((((g4.trans g5).trans g6).trans g7).trans g8).trans g9).g, rup (dif_up (g8.trans g9).g) (rup ((g34.trans g5).trans g6).difs rr2), rup (dif_up g9.g) (rup (((g34.trans g5).trans g6).trans g7).difs rt2), fun x hx => ?_, fun x hx => hrest x (List.mem_filter.mp hx).1, by rw [List.length_append]; omega, hh⟩
    rcases List.mem_append.mp hx with hx | hx
    · exact hrow x hx
    · exact hrest x (List.mem_filter.mp hx).1
  · rw [if_neg Bool.false_ne_true]
    refine ws_retW (WE.of (pe_tup (pa_cons pe_we (pa_cons pe_we pa_nil))) (we_v 2 rfl (we_v 3 rfl ⟨small_sz (n := 2), fun q hq => ?_⟩)))
    have g5 := (g3.trans g4).trans (Gr.new (o := .tup [rv, tv]) g4.s hq)
    have sU : Same G3 (upd G4 q (.tup [rv, tv])) := (g4.trans (Gr.new (o := .tup [rv, tv]) g4.s hq)).g
    refine kk _ _ _ g5 ?_
    rw [← hw]
    exact ⟨q, rv, tv, rfl, by rw [dif_none ((g3.trans g4).fresh hq), upd_same], rup (dif_up sU) rr', rup (dif_up sU) rt'⟩
theorem c_walked (cF : C8.Cal P w K mg base 1 "walked" (P2F (fun ns offs => Lok ns ∧ OffsOk offs) walkedF) []) : C8.Cal P w K mg base 1 "walked" (P2 (fun ns offs => Lok ns ∧ OffsOk offs) walkedF) [] := cal_imp cF fun vs H Q E h => P2F.imp h
end
end T82

namespace T82
open PySem L2 D1 Rp
/-! ### some panel: what the program does -/
theorem EvF.ix21 {α β : Type} [Rp α] [Rp β] {X : Cx} {a : Expr} {σ : L2.St} {G : Hp} {pos ip : Pos} {t : α × β} {j} (ha : EvF X a σ G t) : EvF X (.Subscript a (.Constant (.int 1) j ip) pos) σ G t.2 := fun G1 H1 Q s1 s2 k =>
  WE.of (pe_ix ix_tup pe_we pe_int (fun _ _ => rfl)) (ha G1 H1 _ s1 s2 fun G2 H2 v g r => by
    obtain ⟨q, x, y, rfl, h1, r1, r2⟩ := r
    exact ⟨q, [x, y], 1, y, rfl, rfl, SqT.of (g.s _ _ (dif_same _ _ h1)), rfl, k _ _ _ g r2⟩)
def rowsF (ns : List Str) (ls : List Ln) : List (List Str) :=
  if (callsOf ls).map (fun t => (walkedF ns (offsOf ls [(t.b, t.c)])).1) = [] then [(walkedF ns (offsOf ls [])).1] else (callsOf ls).map fun t => (walkedF ns (offsOf ls [(t.b, t.c)])).1
def somePan (CP : Addr) (ns : List Str) (ls : List Ln) : Option (Pan CP) := if barF ns ls = none then some ⟨sortS ns, rowsF ns ls⟩ else none
theorem wish_nil : WishOk [] := ⟨fun w hw => (by cases hw), by decide⟩
theorem wish_one {t : Ln} (h : LnOk t) : WishOk [(t.b, t.c)] := ⟨fun w hw => by rw [List.mem_singleton.mp hw]; exact ⟨h.2.1, h.2.2⟩, by show 1 ≤ 2; decide⟩
theorem calls_ok {ls : List Ln} (h : LnsOk ls) : LnsOk (callsOf ls) := ⟨fun t ht => h.1 t (List.mem_filter.mp ht).1, Nat.lt_of_le_of_lt (List.length_filter_le _ _) h.2⟩
theorem walked_lok {ns : List Str} {offs : List Off} (h : Lok ns) : Lok (walkedF ns offs).1 ∧ Lok (walkedF ns offs).2 := by
  obtain ⟨h1, _, _⟩ := walked_ok ns offs
  have hl := h1.length_eq
  rw [List.length_append] at hl
  have := h.2
  exact ⟨⟨fun z hz => h.1 z (h1.mem_iff.mp (List.mem_append_left _ hz)), by omega⟩, ⟨fun z hz => h.1 z (h1.mem_iff.mp (List.mem_append_right _ hz)), by omega⟩⟩
theorem walked_perm {ns : List Str} {offs : List Off} (h : (walkedF ns offs).2 = []) : (walkedF ns offs).1.Perm ns := by
  obtain ⟨h1, _, _⟩ := walked_ok ns offs
  rw [h, List.append_nil] at h1
  exact h1
theorem rows_pre {C : Addr} {d : Bk C} (h : BkG d) (hb : barF d.names d.told = none) : panPre d.names (rowsF d.names d.told) := by
  have hk := (bar_none (entP h.en).2.1).mp hb
  have nd := (entP h.en).2.1
  have hrows : ∀ r ∈ rowsF d.names d.told, r.Perm d.names ∧ Lok r := fun r hr => by
    unfold rowsF at hr
    split at hr
    · rw [List.mem_singleton.mp hr]
      exact ⟨walked_perm ((walked_full nd).mpr hk.1), (walked_lok h.ns).1⟩
    · obtain ⟨t, ht, rfl⟩ := List.mem_map.mp hr
      obtain ⟨h1, h2⟩ := List.mem_filter.mp ht
      exact ⟨walked_perm ((walked_full nd).mpr (hk.2 t h1 (of_decide_eq_true h2))), (walked_lok h.ns).1⟩
  refine ⟨h.ns, h.en, ⟨fun r hr => (hrows r hr).2, ?_⟩, decide_eq_true fun r hr => ?_, fun e => ?_⟩
  · unfold rowsF
    split
    · show 1 < 4000; decide
    · rw [List.length_map]; exact (calls_ok h.ls).2
  · have hp := (hrows r hr).1
    unfold isRow areNames
    rw [sortS_congr hp, decide_eq_true (⟨fun z hz => (entP h.en).1 z (hp.mem_iff.mp hz), hp.nodup_iff.mpr nd⟩ : (∀ z ∈ r, isName z = true) ∧ r.Nodup)]
    simp
  · unfold rowsF at e
    split at e
    · cases e
    · rename_i hh; exact hh e
section
variable {P : Program} {w : World} {K : PySem.W.Frag} {mg : Str → Option Value} {base : Heap} {f C CP : Addr} {fd : FuncData}
theorem c_calls_of (D : C8.Def K mg "calls_of" sCallsOf f fd) (b : Binds K fd ["book"] []) (TB : BkT K mg C) : C8.Cal P w K mg base 1 "calls_of" (P1 (fun d : Bk C => LnsOk d.told) (fun d => callsOf d.told)) [] := by
  refine fn1 D b scCallsOf rfl fun cdv A outer s H E G v d hr r h => ?_
  exact Bl.rv (Ev.lcSel 1 (t := fun t : Ln => decide (t.a = "call")) (EI.list (Ev.fld (bkTo TB d) (Ev.v 0 rfl r))) (fun t ht G' v' s1 r' s H C cl fp => ET.eqD hr.units (Ev.ix30 (Ev.v 1 rfl r')) Ev.str (h.1 t ht).1.2 zok_call.2) h.sz scCallsOf.nd (blkOk_by (N := nCallsOf) (sc := C8.fnScope sCallsOf) (by decide +kernel)))
theorem c_bar_ofF (D : C8.Def K mg "bar_of" sBarOf f fd) (b : Binds K fd ["book"] []) (B : Bt mg) (TB : BkT K mg C) (cO : C8.Cal P w K mg base 1 "offs_of" (P2 (fun (d : Bk C) ws => LnsOk d.told ∧ WishOk ws) (fun d ws => offsOf d.told ws)) []) (cW : C8.Cal P w K mg base 1 "walked" (P2F (fun ns offs => Lok ns ∧ OffsOk offs) walkedF) [])
    (cC : C8.Cal P w K mg base 1 "calls_of" (P1 (fun d : Bk C => LnsOk d.told) (fun d => callsOf d.told)) []) (cP : C8.Cal P w K mg base 1 "copied" (P1F (fun _ : Ln => True) (fun t => t)) []) :
    C8.Cal P w K mg base 2 "bar_of" (P1F (fun d : Bk C => BkOk d) (fun d => barF d.names d.told)) [] := by
  refine fn1F D b scBarOf rfl fun cdv A outer s H E G v d Q hr sG r h kk => ?_
  have wl : ∀ ws, Da.lay (walkedF d.names (offsOf d.told ws)).2 := fun ws => (walked_lok h.1).2.lay
  refine ws_asgW 1 (EvF.ap (d := (walkedF d.names (offsOf d.told [])).2) sG (EvF.ix21 (t := walkedF d.names (offsOf d.told [])) (EvF.call2 (f := walkedF) cW hr (Ev.fld (bkN TB d) (Ev.v 0 rfl r)) (Ev.call2 (f := fun (d : Bk C) ws => offsOf d.told ws) cO hr (Ev.v 0 rfl r) Ev.nil ⟨h.2, wish_nil⟩) ⟨h.1, offs_ok h.2 wish_nil⟩)) fun G1 H1 rv g1 rr' => ?_) scBarOf.nd
  have rr := rup dif_same rr'
  refine ws_ifW (ET.ap g1.s (ET.neD hr.units (Ev.v 1 rfl rr) Ev.nil (wl []) lay_nil) fun G2 H2 g2 => ?_)
  have g02 := g1.trans g2
  by_cases he : (walkedF d.names (offsOf d.told [])).2 = []
  · rw [decide_eq_true he]
    refine iteF (ws_nil ?_)
    refine ws_for (fun i σ' G' H' => ∃ rv t2, σ' = [some v, some rv, t2] ∧ Gr G H G' H' ∧ ∀ t ∈ (callsOf d.told).take i, (walkedF d.names (offsOf d.told [(t.b, t.c)])).2 = [])
      (G := G2) (Same.refl _) g2.s (EI.list (Ev.call1 cC hr (Ev.v 0 rfl (rup g02.g r)) h.2)) tgB1 (pg_name (i := 2) scBarOf.nd rfl (by first | exact Or.inl rfl | exact Or.inr rfl)) (fun G3 H3 g3 => ⟨rv, none, rfl, g02.trans g3, fun t ht => by rw [List.take_zero] at ht; cases ht⟩) ?_ ?_ PassesOwn.never
    · rintro i c σ1 G3 H3 hc s23 s33 ⟨rv, t2, rfl, gA, hp⟩ G4 H4 σ2 g4 ⟨lw, rl, rfl⟩
      have hcm := List.mem_of_getElem? hc
      have hcl := (calls_ok h.2).1 c hcm
      have gB := gA.trans g4
      have r3 := rup gB.g r
      refine ws_asgW 1 (EvF.ap (d := (walkedF d.names (offsOf d.told [(c.b, c.c)])).2) g4.s (EvF.ix21 (t := walkedF d.names (offsOf d.told [(c.b, c.c)])) (EvF.call2 (f := walkedF) cW hr (Ev.fld (bkN TB d) (Ev.v 0 rfl r3)) (Ev.call2 (f := fun (d : Bk C) ws => offsOf d.told ws) cO hr (Ev.v 0 rfl r3) (Ev.lst (EL.cons (Ev.tup2 (Ev.ix31 (Ev.v 2 rfl rl)) (Ev.ix32 (Ev.v 2 rfl rl))) EL.nil) (show 1 ≤ 1000 by decide)) ⟨h.2, wish_one hcl⟩) ⟨h.1, offs_ok h.2 (wish_one hcl)⟩)) fun G5 H5 rv2 g5 rr2' => ?_) scBarOf.nd
      have rr2 := rup dif_same rr2'
      refine ws_ifW (ET.ap g5.s (ET.neD hr.units (Ev.v 1 rfl rr2) Ev.nil (wl _) lay_nil) fun G6 H6 g6 => ?_)
      have g56 := g5.trans g6
      by_cases hm : (walkedF d.names (offsOf d.told [(c.b, c.c)])).2 = []
      · rw [decide_eq_true hm]
        refine iteF (ws_nil (ws_nil ⟨G6, g56.g, g6.s, rv2, some lw, rfl, gB.trans g56, fun t ht => ?_⟩))
        rw [List.take_succ, hc] at ht
        rcases List.mem_append.mp ht with ht | ht
        · exact hp t ht
        · rw [List.mem_singleton.mp ht]; exact hm
      · rw [decide_eq_false hm]
        refine iteT (ws_retW (WE.of (pe_tup (pa_cons pe_we (pa_cons pe_we pa_nil))) (EvF.ap (d := c) g6.s (EvF.call1 (f := fun t => t) (d := c) cP hr (Ev.v 2 rfl (rup g56.g rl)) trivial) fun G7 H7 cw g7 rc => we_v 1 rfl ⟨small_sz (n := 2), fun q hq => ?_⟩)))
        have hfind : (callsOf d.told).find? (fun t => !decide ((walkedF d.names (offsOf d.told [(t.b, t.c)])).2 = [])) = some c := by
          refine List.find?_eq_some_iff_append.mpr ⟨by rw [decide_eq_false hm]; rfl, (callsOf d.told).take i, (callsOf d.told).drop (i + 1), ?_, fun t ht => by rw [hp t ht]; rfl⟩
          obtain ⟨hi, e⟩ := List.getElem?_eq_some_iff.mp hc
          rw [← e, ← List.drop_eq_getElem_cons hi, List.take_append_drop]
        have gn := Gr.new (o := .tup [cw, rv2]) g7.s hq
        have gC := (gB.trans g56).trans g7
        have eb : barF d.names d.told = some (some c, (walkedF d.names (offsOf d.told [(c.b, c.c)])).2) := by
          unfold barF
          rw [if_pos he, hfind]
          rfl
        refine kk _ _ _ (gC.trans gn) ?_
        rw [eb]
        exact ⟨q, cw, rv2, rfl, by rw [dif_none (gC.fresh hq), upd_same], rup ((dif_up gn.g).trans (gB.trans g56).difs) rc, rup ((dif_up ((g6.trans g7).trans gn).g).trans gB.difs) rr2'⟩
    · rintro σ1 G3 H3 s23 s33 ⟨rv, t2, rfl, gA, hp⟩
      rw [List.take_length] at hp
      have eb : barF d.names d.told = none := by
        unfold barF
        rw [if_pos he, List.find?_eq_none.mpr fun t ht => by rw [hp t ht]; simp]
        rfl
      refine ws_retW (WE.of pe_non (kk G3 H3 _ gA ?_))
      rw [eb]
      rfl
  · rw [decide_eq_false he]
    refine iteT (ws_retW (WE.of (pe_tup (pa_cons pe_non (pa_cons pe_we pa_nil))) (we_v 1 rfl ⟨small_sz (n := 2), fun q hq => ?_⟩)))
    have gn := Gr.new (o := .tup [.non, rv]) g2.s hq
    have eb : barF d.names d.told = some (none, (walkedF d.names (offsOf d.told [])).2) := by
      unfold barF
      rw [if_neg he]
    refine kk _ _ _ (g02.trans gn) ?_
    rw [eb]
    exact ⟨q, .non, rv, rfl, by rw [dif_none (g02.fresh hq), upd_same], rfl, rup (dif_up (g2.trans gn).g) rr'⟩
theorem c_bar_of (cF : C8.Cal P w K mg base 2 "bar_of" (P1F (fun d : Bk C => BkOk d) (fun d => barF d.names d.told)) []) : C8.Cal P w K mg base 2 "bar_of" (P1 (fun d : Bk C => BkOk d) (fun d => barF d.names d.told)) [] := cal_imp cF fun vs H Q E h => P1F.imp h
theorem c_panel_that_keeps (D : C8.Def K mg "panel_that_keeps" sPanelThatKeeps f fd) (b : Binds K fd ["book"] []) (TB : BkT K mg C) (cO : C8.Cal P w K mg base 1 "offs_of" (P2 (fun (d : Bk C) ws => LnsOk d.told ∧ WishOk ws) (fun d ws => offsOf d.told ws)) []) (cW : C8.Cal P w K mg base 1 "walked" (P2 (fun ns offs => Lok ns ∧ OffsOk offs) walkedF) [])
    (cC : C8.Cal P w K mg base 1 "calls_of" (P1 (fun d : Bk C => LnsOk d.told) (fun d => callsOf d.told)) []) (mP : C8.Mak P w K mg base 5 "Panel" CP (PI2 CP panPre (fun es rs => (⟨sortS es, rs⟩ : Pan CP))) []) :
    C8.Cal P w K mg base 7 "panel_that_keeps" (P1 (fun d : Bk C => BkG d ∧ barF d.names d.told = none) (fun d => (⟨sortS d.names, rowsF d.names d.told⟩ : Pan CP))) [] := by
  refine fn1 D b scPanelThatKeeps rfl fun cdv A outer s H E G v d hr r ⟨h, hb⟩ => ?_
  have pre := rows_pre h hb
  refine bl_asgMap 1 2 (f := fun t : Ln => (walkedF d.names (offsOf d.told [(t.b, t.c)])).1) (EI.list (Ev.call1 cC hr (Ev.v 0 rfl r) h.ls)) (fun t ht G' v' s1 r' s H C2 cl fp => Ev.ix20 (t := walkedF d.names (offsOf d.told [(t.b, t.c)])) (Ev.call2 cW hr (Ev.fld (bkN TB d) (Ev.v 0 rfl (rup s1 r))) (Ev.call2 (f := fun (d : Bk C) ws => offsOf d.told ws) cO hr (Ev.v 0 rfl (rup s1 r)) (Ev.lst (EL.cons (Ev.tup2 (Ev.ix31 (Ev.v 2 rfl r')) (Ev.ix32 (Ev.v 2 rfl r'))) EL.nil) (show 1 ≤ 1000 by decide)) ⟨h.ls, wish_one ((calls_ok h.ls).1 t ht)⟩) ⟨h.ns, offs_ok h.ls (wish_one ((calls_ok h.ls).1 t ht))⟩))
    (calls_ok h.ls).sz scPanelThatKeeps.nd (blkOk_by (N := nPanelThatKeeps) (sc := C8.fnScope sPanelThatKeeps) (by decide +kernel)) (fun G1 rv s1 rr => ?_)
  have lyr : Da.lay ((callsOf d.told).map fun t : Ln => (walkedF d.names (offsOf d.told [(t.b, t.c)])).1) := fun x hx => by
    obtain ⟨t, _, rfl⟩ := List.mem_map.mp hx
    exact (walked_lok h.ns).1.lay
  have r1 := rup s1 r
  refine Bl.rv (Ev.eq (Ev.make2 (f := fun es rs => (⟨sortS es, rs⟩ : Pan CP)) (d := d.names) (z := rowsF d.names d.told) mP hr (Ev.fld (bkN TB d) (Ev.v 0 rfl r1)) (Ev.eq (Ev.ite (ET.neD hr.units (Ev.v 1 rfl rr) Ev.nil lyr lay_nil) (fun _ => Ev.v 1 rfl rr) fun _ => Ev.lst (EL.cons (Ev.ix20 (t := walkedF d.names (offsOf d.told [])) (Ev.call2 cW hr (Ev.fld (bkN TB d) (Ev.v 0 rfl r1)) (Ev.call2 (f := fun (d : Bk C) ws => offsOf d.told ws) cO hr (Ev.v 0 rfl r1) Ev.nil ⟨h.ls, wish_nil⟩) ⟨h.ns, offs_ok h.ls wish_nil⟩)) EL.nil) (show 1 ≤ 1000 by decide)) ?_) pre) rfl)
  unfold rowsF
  by_cases e : (callsOf d.told).map (fun t : Ln => (walkedF d.names (offsOf d.told [(t.b, t.c)])).1) = []
  · rw [if_pos e, decide_eq_true e]; rfl
  · rw [if_neg e, decide_eq_false e]; rfl
theorem c_some_panel (D : C8.Def K mg "some_panel" sSomePanel f fd) (b : Binds K fd ["book"] []) (cK : C8.Cal P w K mg base 1 "check_book" (P1 (fun _ : Bk C => True) (fun _ => ())) []) (cB : C8.Cal P w K mg base 2 "bar_of" (P1 (fun d : Bk C => BkOk d) (fun d => barF d.names d.told)) [])
    (cP : C8.Cal P w K mg base 7 "panel_that_keeps" (P1 (fun d : Bk C => BkG d ∧ barF d.names d.told = none) (fun d => (⟨sortS d.names, rowsF d.names d.told⟩ : Pan CP))) []) :
    C8.Cal P w K mg base 8 "some_panel" (P1 (fun d : Bk C => BkG d) (fun d => somePan CP d.names d.told)) [] := by
  refine fn1 D b scSomePanel rfl fun cdv A outer s H E G v d hr r h => ?_
  refine Bl.expr (Ev.call1 cK hr (Ev.v 0 rfl r) trivial) ?_
  unfold somePan
  by_cases e : barF d.names d.told = none
  · rw [if_pos e]
    exact Bl.rv (ev_iteT (ET.eq (ET.isN (Ev.call1 cB hr (Ev.v 0 rfl r) h.ok)) (by rw [e]; rfl)) (Ev.opt (Ev.call1 (f := fun d : Bk C => (⟨sortS d.names, rowsF d.names d.told⟩ : Pan CP)) cP hr (Ev.v 0 rfl r) ⟨h, e⟩)))
  · rw [if_neg e]
    exact Bl.rv (ev_iteF (ET.eq (ET.isN (Ev.call1 cB hr (Ev.v 0 rfl r) h.ok)) (by
      cases h1 : barF d.names d.told with
      | none => exact absurd h1 e
      | some x => rfl)) (Ev.nonO (α := Pan CP)))
end
end T82

namespace T82
open PySem L2 D1 Rp
/-! ### books of new things -/
section
variable {P : Program} {w : World} {K : PySem.W.Frag} {mg : Str → Option Value} {base : Heap} {f C CP : Addr} {fd : FuncData}
theorem c_copiedF (D : C8.Def K mg "copied" sCopied f fd) (b : Binds K fd ["line"] []) (B : Bt mg) : C8.Cal P w K mg base 1 "copied" (P1F (fun _ : Ln => True) (fun t => t)) [] := by
  refine fn1F D b scCopied rfl fun cdv A outer s H E G v t Q hr sG r _ kk => ?_
  exact ws_retW (EvF.ap sG (EvF.tup3 (EvF.str (Ev.ix30 (Ev.v 0 rfl r))) (EvF.listS B (Ev.ix31 (Ev.v 0 rfl r))) (EvF.str (Ev.ix32 (Ev.v 0 rfl r)))) fun G1 H1 u g1 r1 => kk G1 H1 u g1 r1)
theorem m_bookF (F : C8.Fun K "__init__" "Book.__init__" sBookInit f fd) (b : Binds K fd ["self", "entries", "lines"] []) (M : Mk K C f) (B : Bt mg) (T : BkT K mg C) (cE : C8.Cal P w K mg base 3 "are_entries" (P1 Lok areEntries) [])
    (cL : C8.Cal P w K mg base 6 "is_line" (P2 (fun t es => LnOk t ∧ Lok es) isLine) []) (cC : C8.Cal P w K mg base 1 "copied" (P1F (fun _ : Ln => True) (fun t => t)) []) :
    C8.Mak P w K mg base 7 "Book" C (PI2F C bkPre (mkBk : List Str → List Ln → Bk C)) [] := by
  refine C8.mak0 M T.mgC F b .nil scBookInit (fun vs H Q E h => ?_) fun cdv A outer s H vs Q E hr h => ?_
  · obtain ⟨G, x, dx, u, v, es, rs, rfl, _⟩ := h
    rfl
  · obtain ⟨G, x, dx, u, v, es, ls, rfl, hx, gx, sG, r1, r2, ⟨h1, h2, h3, h4⟩, kk⟩ := h
    refine ⟨_, pss_ws, ?_⟩
    refine ws_ifF (Same.refl G) sG (ET.eq (ET.not (ET.val (Ev.call1 cE hr (Ev.v 1 rfl r1) h1))) (by rw [h2]; rfl)) fun G2 H2 g2 => ?_
    refine ws_ifF g2.g g2.s (ET.eq (EW.t (EW.or (ET.not (ET.val (Ev.isiList B (Ev.v 2 rfl r2)))) fun _ => EW.or1 (ET.neD hr.units
      (Ev.lcSel 3 (t := fun t => !isLine t es) (EI.list (Ev.v 2 rfl r2)) (fun d hd G' v' s1 r' s H C cl fp => ET.not (ET.val (Ev.call2 cL hr (Ev.v 3 rfl r') (Ev.v 1 rfl (rup s1 r1)) ⟨h3.1 d hd, h1⟩))) h3.sz scBookInit.nd (blkOk_by (N := nBookInit) (sc := C8.fnScope sBookInit) (by decide +kernel))) Ev.nil
      (fun a ha => h3.lay a (List.mem_filter.mp ha).1) lay_nil))) (by
        have e : ls.filter (fun t => !isLine t es) = [] := filter_nil_iff.mpr fun t ht => by rw [of_decide_eq_true h4 t ht]; rfl
        rw [e]; rfl)) fun G3 H3 g3 => ?_
    have g03 := g2.trans g3
    have hx3 := g03.hh _ _ hx
    have gx3 := g03.f x gx (by rw [hx]; exact fun z => nomatch z)
    refine ws_fldF 0 g03.g g3.s rfl hx3 gx3 T.cl T.nN (by show 0 < 1000; decide) (EvF.sortedS B (Ev.v 1 rfl r1) h1.2) fun G4 H4 v4 g4 hx4 r4' => ?_
    have r4 : rp (dif G4 H) v4 (sortS es) := rup g03.difs r4'
    have gx4 := g4.f x gx3 (by rw [hx3]; exact fun z => nomatch z)
    have g04 : GrM (fun q => q = x) G H G4 H4 := g03.any.trans g4
    refine WS.cons (ps_fld (pv 0) (pe_lst pa_nil) rfl) ⟨small_sz (n := 0), fun tl htl => ?_⟩
    have xtl : x ≠ tl := ne_of_none hx4 htl
    refine ⟨_, rfl, x, C, dx, _, rfl, (by rw [upd_ne xtl]; exact hx4), T.cl, T.nT, (by show 1 < 1000; decide), ?_⟩
    have gtl : G4 tl = none := g04.s.free htl
    have g05 : GrM (fun q => q = x) G H G4 (upd (upd H4 tl (.lst [])) x (.ins C dx (bkF v4 (.ref tl)))) := g04.trans ((Gr.newM g4.s htl).any.trans (GrM.put (Gr.newM (o := .lst []) g4.s htl).s gx4 rfl))
    have tl0 : H tl = none := g04.fresh htl
    refine ws_for (fun i σ' G' H' => ∃ acc lv, σ' = [some (.ref x), some u, some v, lv] ∧ GrM (fun q => q = x) G H G' H' ∧ Same G4 G' ∧ G' x = none ∧ G' tl = none ∧ H' x = some (.ins C dx (bkF v4 (.ref tl))) ∧ H' tl = some (.lst acc) ∧ Paired (rp (dif G' H)) acc (dedup ((sortD ls).take i)))
      (G := G4) (Same.refl G4) g05.s (EI.list (Ev.sortedD B hr.units (Ev.v 2 rfl (rup g04.g r2)))) tgB1 (pg_name (i := 3) scBookInit.nd rfl (Or.inl rfl))
      (fun G6 H6 g6 => ⟨[], none, rfl, g05.trans g6.any, g6.g, g6.f x gx4 (by rw [upd_same]; exact fun z => nomatch z), g6.f tl gtl (by rw [upd_ne (Ne.symm xtl), upd_same]; exact fun z => nomatch z), g6.hh _ _ upd_same, g6.hh _ _ (by rw [upd_ne (Ne.symm xtl), upd_same]), .nil⟩) ?_ ?_ PassesOwn.never
    · rintro i c σ1 G6 H6 hc s46 s66 ⟨acc, lv, rfl, gA, sA, nx, nt, hx6, ht6, pr⟩ G7 H7 σ2 g7 ⟨lw, rl, rfl⟩
      have hcl : c ∈ ls := mem_sortD.mp (List.mem_of_getElem? hc)
      have hx7 := g7.hh _ _ hx6
      have ht7 := g7.hh _ _ ht6
      have pr7 : Paired (rp (dif G7 H)) acc (dedup ((sortD ls).take i)) := pmono pr fun _ _ => rup (dif_up g7.g)
      have nx7 := g7.f x nx (by rw [hx6]; exact fun z => nomatch z)
      have nt7 := g7.f tl nt (by rw [ht6]; exact fun z => nomatch z)
      have hsub : ∀ y ∈ dedup ((sortD ls).take i), y ∈ ls := fun y hy => mem_sortD.mp (List.mem_of_mem_take (mem_dedup.mp hy))
      have hlen : acc.length < 4000 := by
        have e1 := pr.length
        have e2 := dedup_length ((sortD ls).take i)
        rw [List.length_take, sortD_length] at e2
        have := h3.2
        omega
      refine ws_ifW (WT.of (pt_cmpR (op_notInD hr.units65) (pv 3) (pe_fld (pv 0) rfl) rfl) ⟨lw, rfl, .ref x, rfl, x, C, dx, _, .ref tl, rfl, hx7, T.cl, T.nT, bkF_t, Da.toD c, _, Da.dp (rup g7.s rl), .lst (SqL.of ht7) (dpAll_of (pmono pr7 fun _ _ => rup (dif_same.trans g7.s))),
        shaped_of (h3.1 c hcl).lay (by decide), shaped_of (a := dedup ((sortD ls).take i)) (fun y hy => (h3.1 y (hsub y hy)).lay) (by decide), _, rfl, ?_⟩)
      rw [any_eqv]
      by_cases hm : c ∈ dedup ((sortD ls).take i)
      · rw [decide_eq_true hm]
        refine iteF (ws_nil (ws_nil ⟨G7, Same.refl _, g7.s, acc, some lw, rfl, gA.trans g7.any, sA.trans g7.g, nx7, nt7, hx7, ht7, ?_⟩))
        rw [dedup_snoc hc]
        unfold d1
        rw [if_pos hm]
        exact pr7
      · rw [decide_eq_false hm]
        refine iteT (ws_exprW (WE.of (pe_bm PySem.F.plainAttrs_list PySem.F.slot_list_append PySem.F.type_list_append mt_append (pe_fld (pv 0) rfl) (pa_cons pe_we pa_nil)) ?_))
        refine ⟨.ref x, rfl, x, C, dx, _, .ref tl, rfl, hx7, T.cl, T.nT, bkF_t, .inl ⟨rfl, _, SqL.of ht7⟩, ?_⟩
        refine EvF.ap (d := c) (G1 := G7) g7.s (EvF.call1 (f := fun t => t) (d := c) cC hr (Ev.v 3 rfl rl) trivial) fun G8 H8 w8 g8 r8 => ?_
        have ht8 := g8.hh _ _ ht7
        have nt8 := g8.f tl nt7 (by rw [ht7]; exact fun z => nomatch z)
        refine ⟨tl, acc, w8, rfl, rfl, ht8, Nat.lt_trans hlen (by decide), ?_⟩
        have gp : GrM (fun q => q = tl) G8 H8 G8 (upd H8 tl (.lst (acc ++ [w8]))) := GrM.put g8.s nt8 rfl
        refine ws_nil (ws_nil ⟨G8, g8.g, gp.s, acc ++ [w8], some lw, rfl, ?_, sA.trans (g7.trans g8).g, g8.f x nx7 (by rw [hx7]; exact fun z => nomatch z), nt8, by rw [upd_ne xtl]; exact g8.hh _ _ hx7, upd_same, ?_⟩)
        · have gB := (gA.trans g7.any).trans g8.any
          refine ⟨gB.g, fun b' o' nb e => ?_, gp.s, gB.f, fun b' n => upd_some (gB.d b' n)⟩
          rw [upd_ne (ne_of_none e tl0)]
          exact gB.h b' o' nb e
        · rw [dedup_snoc hc]
          unfold d1
          rw [if_neg hm]
          exact r2_cat.PairedAppend (pmono pr7 fun _ _ => rup (dif_up g8.g)) (.cons (rup ((gA.trans g7.any).difs) r8) .nil)
    · rintro σ1 G6 H6 s46 s66 ⟨acc, lv, rfl, gA, sA, nx, nt, hx6, ht6, pr⟩
      rw [List.take_length] at pr
      have gP := gA.promote tl0 nt ht6
      have dtl : dif (upd G6 tl (.lst acc)) H tl = some (.lst acc) := by rw [dif_none tl0, upd_same]
      have s0 : Same (dif G6 H) (dif (upd G6 tl (.lst acc)) H) := dif_up (same_new nt)
      have dx0 : dif (upd G6 tl (.lst acc)) H x = none := by
        cases e : dif (upd G6 tl (.lst acc)) H x with
        | none => rfl
        | some o => have := (dif_at e).1; rw [hx] at this; cases this
      have sm : Same (dif (upd G6 tl (.lst acc)) H) (upd (dif (upd G6 tl (.lst acc)) H) x (.ins C dx (bkF v4 (.ref tl)))) := same_new dx0
      refine ws_nil (kk _ H6 _ gP hx6 ⟨x, dx, v4, .ref tl, rfl, upd_same, rup (((dif_up sA).trans s0).trans sm) r4, tl, acc, rfl, by rw [upd_ne (Ne.symm xtl)]; exact dtl, pmono pr fun _ _ => rup (s0.trans sm)⟩)
/-! ### rounds: what the program does -/
theorem c_is_round (D : C8.Def K mg "is_round" sIsRound f fd) (b : Binds K fd ["value", "entries"] []) (B : Bt mg) (cF : C8.Cal P w K mg base 5 "is_field" (P2 (fun l es => Lok l ∧ Lok es) isField) []) :
    C8.Cal P w K mg base 6 "is_round" (P2 (fun (r : Rd) es => (Lok r.1 ∧ Lok r.2) ∧ Lok es) isRoundP) [] := by
  refine fn2 D b scIsRound rfl fun cdv A outer s H E G u v r es hr r1 r2 ⟨⟨h1, h2⟩, h3⟩ => ?_
  refine Bl.ifF (ET.eq (EW.t (EW.or (ET.not (ET.val (Ev.isiT2 B (Ev.v 0 rfl r1)))) fun _ => EW.or1 (ET.neD hr.units (Ev.len2 B (Ev.v 0 rfl r1)) Ev.int trivial trivial))) (by decide)) ?_
  exact Bl.rv (Ev.and (Ev.call2 cF hr (Ev.ix20 (Ev.v 0 rfl r1)) (Ev.v 1 rfl r2) ⟨h1, h3⟩) fun _ => Ev.one (Ev.call2 cF hr (Ev.ix21 (Ev.v 0 rfl r1)) (Ev.ix20 (Ev.v 0 rfl r1)) ⟨h2, h1⟩))
theorem rds_lay {rs : List Rd} (h : ∀ r ∈ rs, Lok r.1 ∧ Lok r.2) : Da.lay rs := fun r hr => ⟨(h r hr).1.lay, (h r hr).2.lay⟩
theorem c_check_rounds (D : C8.Def K mg "check_rounds" sCheckRounds f fd) (b : Binds K fd ["value", "entries"] []) (B : Bt mg) (cR : C8.Cal P w K mg base 6 "is_round" (P2 (fun (r : Rd) es => (Lok r.1 ∧ Lok r.2) ∧ Lok es) isRoundP) []) :
    C8.Cal P w K mg base 7 "check_rounds" (P2 (fun rs es => RdsOk es rs) (fun _ _ => ())) [] := by
  refine fn2 D b scCheckRounds rfl fun cdv A outer s H E G u v rs es hr r1 r2 h => ?_
  have e : rs.filter (fun r => !isRoundP r es) = [] := filter_nil_iff.mpr fun r hr' => by rw [h.rd r hr']; rfl
  refine Bl.ifF (ET.eq (EW.t (EW.or (ET.not (ET.val (Ev.isiList B (Ev.v 0 rfl r1)))) fun _ => EW.or1 (ET.neD hr.units (Ev.lcSel 2 (t := fun r => !isRoundP r es) (EI.list (Ev.v 0 rfl r1)) (fun d hd G' v' s1 r' s H C cl fp => ET.not (ET.val (Ev.call2 cR hr (Ev.v 2 rfl r') (Ev.v 1 rfl (rup s1 r2)) ⟨h.lok d hd, h.nm⟩))) (Nat.lt_of_le_of_lt h.few (by decide)) scCheckRounds.nd (blkOk_by (N := nCheckRounds) (sc := C8.fnScope sCheckRounds) (by decide +kernel))) Ev.nil
    (fun a ha => rds_lay h.lok a (List.mem_filter.mp ha).1) lay_nil))) (by rw [e]; rfl)) (Bl.nil fun _ _ => rfl)
theorem rdLines_snoc {rs : List Rd} {i : Nat} {c : Rd} (h : rs[i]? = some c) : rdLines (rs.take (i + 1)) = rdLines (rs.take i) ++ ((c.2.map fun n => (⟨"call", c.1, n⟩ : Ln)) ++ (c.1.filter fun n => !decide (n ∈ c.2)).map fun n => (⟨"off", c.2, n⟩ : Ln)) := by
  have e : rs.take (i + 1) = rs.take i ++ [c] := by rw [List.take_succ, h]; rfl
  unfold rdLines
  rw [e, List.flatMap_append]
  simp
theorem c_rounds_book (D : C8.Def K mg "rounds_book" sRoundsBook f fd) (b : Binds K fd ["entries", "rounds"] []) (B : Bt mg) (mB : C8.Mak P w K mg base 7 "Book" C (PI2F C bkPre (mkBk : List Str → List Ln → Bk C)) []) :
    C8.Cal P w K mg base 9 "rounds_book" (P2F RdsOk (fun es rs => rdBook C es rs)) [] := by
  refine fn2F D b scRoundsBook rfl fun cdv A outer s H E G u v es rs Q hr sG r1 r2 h kk => ?_
  have a6 : sizeLine = 16777216 := rfl
  refine ws_asg 2 (d := ([] : List Ln)) (Same.refl _) sG Ev.nil (fun G1 H1 lv g1 rl => ?_) scRoundsBook.nd
  refine ws_for (fun i σ' G' H' => ∃ lv t3 t4 t5, σ' = [some u, some v, some lv, t3, t4, t5] ∧ Gr G H G' H' ∧ rp G' lv (rdLines (rs.take i)))
    (G := G1) (Same.refl _) g1.s (EI.list (Ev.v 1 rfl (rup g1.g r2))) (tgB2 (K := K)) (pg_two (i := 3) (j := 4) rfl scRoundsBook.nd rfl rfl (by first | exact Or.inl rfl | exact Or.inr rfl) (by first | exact Or.inl rfl | exact Or.inr rfl) (by first | exact .inl rfl | exact .inr rfl) (by first | exact .inl rfl | exact .inr rfl))
    (fun G2 H2 g2 => ⟨lv, none, none, none, rfl, g1.trans g2, by rw [List.take_zero]; exact rup g2.g rl⟩) ?_ ?_ PassesOwn.never
  · rintro i c σ1 G2 H2 hc s12 s22 ⟨lv, t3, t4, t5, rfl, gA, rl⟩ G3 H3 σ2 g3 ⟨fw, nw, rf, rn, rfl⟩
    obtain ⟨c1, c2⟩ := h.lok c (List.mem_of_getElem? hc)
    have hlen := rdLines_len (es := es) (rs := rs.take i) (fun r hr => h.lok r (List.mem_of_mem_take hr)) (fun r hr => h.rd r (List.mem_of_mem_take hr))
    have hfew := h.few
    have htk : (rs.take i).length ≤ rs.length := by rw [List.length_take]; exact Nat.min_le_right _ _
    have l1 := c1.2
    have l2 := c2.2
    have hlen2 : (rdLines (rs.take i)).length ≤ 3780 := Nat.le_trans hlen (by omega)
    refine ws_asg 2 (d := rdLines (rs.take i) ++ c.2.map fun n => (⟨"call", c.1, n⟩ : Ln)) (Same.refl _) g3.s (Ev.cat (Ev.v 2 rfl (rup g3.g rl)) (Ev.lcMap 5 (f := fun n => (⟨"call", c.1, n⟩ : Ln)) (EI.list (Ev.v 4 rfl rn)) (fun n hn G' v' s1 r' s H C cl fp => Ev.tup3 Ev.str (Ev.listOf B (Ev.v 3 rfl (rup s1 rf))) (Ev.v 5 rfl r')) (sz64 c2.2) scRoundsBook.nd (blkOk_by (N := nRoundsBook) (sc := C8.fnScope sRoundsBook) (by decide +kernel))) (by rw [List.length_map]; omega)) (fun G4 H4 lv2 g4 rl2 => ?_) scRoundsBook.nd
    have hfl := List.length_filter_le (fun n => !decide (n ∈ c.2)) c.1
    refine ws_asg 2 (d := rdLines (rs.take (i + 1))) (Same.refl _) g4.s (Ev.eq (Ev.cat (Ev.v 2 rfl rl2) (Ev.lcIf 5 (t := fun n => !decide (n ∈ c.2)) (f := fun n => (⟨"off", c.2, n⟩ : Ln)) (EI.list (Ev.v 3 rfl (rup g4.g rf))) (fun n hn G' v' s1 r' s H C cl fp => ET.niD hr.units65 (Ev.v 5 rfl r') (Ev.v 4 rfl (rup (g4.g.trans s1) rn)) (c1.1 n hn).2 c2.lay) (fun n hn _ G' v' s1 r' s H C cl fp => Ev.tup3 Ev.str (Ev.listOf B (Ev.v 4 rfl (rup (g4.g.trans s1) rn))) (Ev.v 5 rfl r')) (sz64 c1.2) scRoundsBook.nd (blkOk_by (N := nRoundsBook) (sc := C8.fnScope sRoundsBook) (by decide +kernel))) (by rw [List.length_append, List.length_map, List.length_map]; omega)) (by rw [rdLines_snoc hc, List.append_assoc])) (fun G5 H5 lv3 g5 rl3 => ?_) scRoundsBook.nd
    exact ws_nil ⟨G5, (g4.trans g5).g, g5.s, lv3, _, _, _, rfl, ((gA.trans g3).trans g4).trans g5, rl3⟩
  · rintro σ1 G2 H2 s12 s22 ⟨lv, t3, t4, t5, rfl, gA, rl⟩
    rw [List.take_length] at rl
    exact ws_retW (EvF.ap gA.s (EvF.make2 (f := (mkBk : List Str → List Ln → Bk C)) (d := es) (z := rdLines rs) mB hr (Ev.listOf B (Ev.v 0 rfl (rup gA.g r1))) (Ev.v 2 rfl rl) (rd_pre h)) fun G3 H3 w3 g3 r3 => kk G3 H3 w3 (gA.trans g3) (rup gA.difs r3))
theorem c_book_of_rounds (D : C8.Def K mg "book_of_rounds" sBookOfRounds f fd) (b : Binds K fd ["entries", "rounds"] []) (cE : C8.Cal P w K mg base 4 "check_entries" (P1 (fun l => Lok l ∧ areEntries l = true) (fun _ => ())) []) (cR : C8.Cal P w K mg base 7 "check_rounds" (P2 (fun rs es => RdsOk es rs) (fun _ _ => ())) [])
    (cB : C8.Cal P w K mg base 9 "rounds_book" (P2F RdsOk (fun es rs => rdBook C es rs)) []) : C8.Cal P w K mg base 10 "book_of_rounds" (P2F RdsOk (fun es rs => rdBook C es rs)) [] := by
  refine fn2F D b scBookOfRounds rfl fun cdv A outer s H E G u v es rs Q hr sG r1 r2 h kk => ?_
  refine ws_expr (Same.refl _) sG (Ev.call1 cE hr (Ev.v 0 rfl r1) ⟨h.nm, h.en⟩) fun G1 H1 g1 => ?_
  refine ws_expr (Same.refl _) g1.s (Ev.call2 cR hr (Ev.v 1 rfl (rup g1.g r2)) (Ev.v 0 rfl (rup g1.g r1)) h) fun G2 H2 g2 => ?_
  have g02 := g1.trans g2
  exact ws_retW (EvF.ap g02.s (EvF.call2 (f := fun es rs => rdBook C es rs) cB hr (Ev.v 0 rfl (rup g02.g r1)) (Ev.v 1 rfl (rup g02.g r2)) h) fun G3 H3 w3 g3 r3 => kk G3 H3 w3 (g02.trans g3) (rup g02.difs r3))
end
/-! ### what is walked keeps the lines: the plain law -/
/-- ahead of each entry stands one of each of its lots -/
def Ord (offs : List Off) (row : List Str) : Prop := ∀ pre x post, row = pre ++ x :: post → okAt offs pre x = true
theorem okAt_mono {offs : List Off} {r r' : List Str} {x : Str} (h : ∀ z ∈ r, z ∈ r') (k : okAt offs r x = true) : okAt offs r' x = true :=
  okAt_iff.mpr fun o ho e => by
    obtain ⟨z, hz, hr⟩ := okAt_iff.mp k o ho e
    exact ⟨z, hz, h z hr⟩
theorem ord_app {offs : List Off} {row free : List Str} (h : Ord offs row) (hf : ∀ x ∈ free, okAt offs row x = true) : Ord offs (row ++ free) := fun pre x post e => by
  rcases List.append_eq_append_iff.mp e with ⟨as, e1, e2⟩ | ⟨cs, e1, e2⟩
  · refine okAt_mono (r := row) (fun z hz => by rw [e1]; exact List.mem_append_left _ hz) (hf x ?_)
    rw [e2]
    exact List.mem_append_right _ List.mem_cons_self
  · cases cs with
    | nil =>
      rw [List.append_nil] at e1
      rw [List.nil_append] at e2
      subst e1
      exact hf x (by rw [← e2]; exact List.mem_cons_self)
    | cons c cs =>
      rw [List.cons_append] at e2
      cases e2
      exact h pre x cs e1
theorem wk_ord {offs : List Off} : ∀ (n : Nat) (row rest : List Str), Ord offs row → Ord offs (wk offs n row rest).1
  | 0, row, rest, h => h
  | n + 1, row, rest, h => by
    unfold wk
    by_cases e : rest.filter (okAt offs row) = []
    · rw [if_pos e]; exact h
    · rw [if_neg e]; exact wk_ord n _ _ (ord_app h fun x hx => (List.mem_filter.mp hx).2)
theorem walked_ord (ns : List Str) (offs : List Off) : Ord offs (walkedF ns offs).1 := wk_ord _ _ _ fun pre x post e => by
  have := congrArg List.length e
  rw [List.length_append, List.length_cons] at this
  simp at this
theorem first_split {f : List Str} {x : Str} : ∀ {row : List Str}, firstIn row f = some x → ∃ pre post, row = pre ++ x :: post ∧ (∀ z ∈ pre, z ∉ f) ∧ x ∈ f
  | [], h => by cases h
  | a :: row, h => by
    unfold firstIn at h
    by_cases ha : a ∈ f
    · rw [List.filter_cons_of_pos (p := fun n => decide (n ∈ f)) (decide_eq_true ha)] at h
      have e : a = x := Option.some.inj h
      subst e
      exact ⟨[], row, rfl, fun z hz => (by cases hz), ha⟩
    · rw [List.filter_cons_of_neg (p := fun n => decide (n ∈ f)) (by show ¬ decide (a ∈ f) = true; rw [decide_eq_false ha]; simp)] at h
      obtain ⟨pre, post, e, h1, h2⟩ := first_split (row := row) h
      refine ⟨a :: pre, post, by rw [e]; rfl, fun z hz => ?_, h2⟩
      rcases List.mem_cons.mp hz with hz | hz
      · rw [hz]; exact ha
      · exact h1 z hz
theorem line_word {t : Ln} {es : List Str} (h : isLine t es = true) : (t.a = "call" ∨ t.a = "off") ∧ (∀ x ∈ t.b, x ∈ es) ∧ t.b ≠ [] ∧ t.c ∈ es ∧ (t.a = "call" ↔ t.c ∈ t.b) := by
  unfold isLine at h
  rw [Bool.and_eq_true, Bool.and_eq_true, Bool.and_eq_true, Bool.and_eq_true] at h
  obtain ⟨h1, h2, h3, h4, h5⟩ := h
  obtain ⟨_, _, _, i1, i2⟩ := fieldP h2
  have h5 := of_decide_eq_true h5
  exact ⟨of_decide_eq_true h1, i1, i2, of_decide_eq_true h4, (decide_eq_decide.mp h5).symm⟩
/-- rows that keep all lines -/
theorem kept_rows {ns : List Str} {ls : List Ln} (hn : ns.Nodup) (hl : ∀ t ∈ ls, isLine t ns = true) (hk : Kept ns ls) : (∀ r ∈ rowsF ns ls, r.Perm ns) ∧ keepsF ls (rowsF ns ls) = true := by
  have hrow : ∀ r ∈ rowsF ns ls, r.Perm ns ∧ ∃ ws, r = (walkedF ns (offsOf ls ws)).1 := fun r hr => by
    unfold rowsF at hr
    split at hr
    · rw [List.mem_singleton.mp hr]
      exact ⟨walked_perm ((walked_full hn).mpr hk.1), _, rfl⟩
    · obtain ⟨t, ht, rfl⟩ := List.mem_map.mp hr
      obtain ⟨h1, h2⟩ := List.mem_filter.mp ht
      exact ⟨walked_perm ((walked_full hn).mpr (hk.2 t h1 (of_decide_eq_true h2))), _, rfl⟩
  refine ⟨fun r hr => (hrow r hr).1, ?_⟩
  unfold keepsF
  rw [List.all_eq_true]
  intro t ht
  obtain ⟨hw, hb, hbn, hc, hin⟩ := line_word (hl t ht)
  unfold lineKept
  by_cases e : t.a = "call"
  · rw [if_pos e]
    have hcall : t ∈ callsOf ls := List.mem_filter.mpr ⟨ht, decide_eq_true e⟩
    have hmem : (walkedF ns (offsOf ls [(t.b, t.c)])).1 ∈ rowsF ns ls := by
      unfold rowsF
      have hm : (walkedF ns (offsOf ls [(t.b, t.c)])).1 ∈ (callsOf ls).map fun t => (walkedF ns (offsOf ls [(t.b, t.c)])).1 := List.mem_map.mpr ⟨t, hcall, rfl⟩
      rw [if_neg fun z => by rw [z] at hm; cases hm]
      exact hm
    refine List.any_eq_true.mpr ⟨_, hmem, decide_eq_true ?_⟩
    obtain ⟨x, hx, hxb⟩ := first_some (hrow _ hmem).1 hb hbn
    obtain ⟨pre, post, e1, h1, _⟩ := first_split hx
    rw [hx]
    refine congrArg some (Classical.byContradiction fun hne => ?_)
    have hok := walked_ord ns (offsOf ls [(t.b, t.c)]) pre x post e1
    obtain ⟨z, hz, hzp⟩ := okAt_iff.mp hok ([t.c], x) (by
      unfold offsOf
      refine List.mem_append_right _ (List.mem_flatMap.mpr ⟨(t.b, t.c), List.mem_singleton.mpr rfl, List.mem_map.mpr ⟨x, List.mem_filter.mpr ⟨hxb, ?_⟩, rfl⟩⟩)
      show (!decide (x = t.c)) = true
      rw [decide_eq_false hne]; rfl) rfl
    rw [List.mem_singleton.mp hz] at hzp
    exact h1 _ hzp (hin.mp e)
  · rw [if_neg e, Bool.not_eq_true']
    refine List.any_eq_false.mpr fun r hr hm => ?_
    obtain ⟨ws, rfl⟩ := (hrow r hr).2
    obtain ⟨pre, post, e1, h1, _⟩ := first_split (of_decide_eq_true hm)
    have hok := walked_ord ns (offsOf ls ws) pre t.c post e1
    obtain ⟨z, hz, hzp⟩ := okAt_iff.mp hok (t.b, t.c) (List.mem_append_left _ (List.mem_map.mpr ⟨t, List.mem_filter.mpr ⟨ht, decide_eq_true (hw.resolve_left e)⟩, rfl⟩)) rfl
    exact h1 z hzp (List.mem_append_left _ hz)
/-! ### lines that rows keep -/
theorem ord_reach {ns : List Str} {offs : List Off} : ∀ (post pre : List Str), (∀ x ∈ pre ++ post, x ∈ ns) → Ord offs (pre ++ post) → (∀ x ∈ pre, Reach ns offs x) → ∀ x ∈ pre ++ post, Reach ns offs x
  | [], pre, _, _, h => fun x hx => h x (by rwa [List.append_nil] at hx)
  | y :: post, pre, hs, ho, h => by
    have e : pre ++ y :: post = (pre ++ [y]) ++ post := by rw [List.append_assoc]; rfl
    have hy : Reach ns offs y := Reach.step (hs y (List.mem_append_right _ List.mem_cons_self)) fun o hoo e => by
      obtain ⟨z, hz, hp⟩ := okAt_iff.mp (ho pre y post rfl) o hoo e
      exact ⟨z, hz, h z hp⟩
    rw [e] at hs ho ⊢
    refine ord_reach post (pre ++ [y]) hs ho fun x hx => ?_
    rcases List.mem_append.mp hx with hx | hx
    · exact h x hx
    · rw [List.mem_singleton.mp hx]; exact hy
theorem ord_full {ns r : List Str} {offs : List Off} (pm : r.Perm ns) (h : Ord offs r) : Full ns offs := fun x hx => ord_reach r [] (fun x hx => pm.mem_iff.mp hx) h (fun x hx => (by cases hx)) x (pm.mem_iff.mpr hx)
theorem before {pre post pre' post' : List Str} {c y : Str} (e : pre ++ c :: post = pre' ++ y :: post') (h1 : c ∉ pre') (h2 : c ≠ y) : y ∈ pre := by
  rcases List.append_eq_append_iff.mp e with ⟨as, e1, e2⟩ | ⟨cs, e1, e2⟩
  · cases as with
    | nil => cases e2; exact absurd rfl h2
    | cons a as =>
      cases e2
      exact absurd (by rw [e1]; exact List.mem_append_right _ List.mem_cons_self) h1
  · cases cs with
    | nil => cases e2; exact absurd rfl h2
    | cons a as =>
      cases e2
      rw [e1]
      exact List.mem_append_right _ List.mem_cons_self
theorem rows_kept {ns : List Str} {ls : List Ln} {rows : List (List Str)} (hl : ∀ t ∈ ls, isLine t ns = true) (hr : ∀ r ∈ rows, r.Perm ns) (hne : rows ≠ []) (hk : keepsF ls rows = true) : Kept ns ls := by
  unfold keepsF at hk
  rw [List.all_eq_true] at hk
  have hoff : ∀ r ∈ rows, ∀ t ∈ ls, t.a = "off" → ∀ pre post, r = pre ++ t.c :: post → ∃ z ∈ t.b, z ∈ pre := fun r hrr t ht ea pre post e => by
    obtain ⟨hw, hb, hbn, hc, hin⟩ := line_word (hl t ht)
    have h1 := hk t ht
    unfold lineKept at h1
    rw [if_neg (fun z => call_ne_off (z.symm.trans ea)), Bool.not_eq_true'] at h1
    have h2 := List.any_eq_false.mp h1 r hrr
    obtain ⟨y, hy, hyf⟩ := first_some (f := t.b ++ [t.c]) (hr r hrr) (fun y hy => by
      rcases List.mem_append.mp hy with hy | hy
      · exact hb y hy
      · rw [List.mem_singleton.mp hy]; exact hc) (by simp)
    have hyc : y ≠ t.c := fun e2 => h2 (decide_eq_true (by rw [hy, e2]))
    obtain ⟨pre', post', e1, h3, _⟩ := first_split hy
    refine ⟨y, ?_, before (e.symm.trans e1) (fun z => h3 _ z (List.mem_append_right _ List.mem_cons_self)) (Ne.symm hyc)⟩
    rcases List.mem_append.mp hyf with hyf | hyf
    · exact hyf
    · exact absurd (List.mem_singleton.mp hyf) hyc
  have hord : ∀ r ∈ rows, ∀ ws : List (List Str × Str), (∀ w ∈ ws, firstIn r w.1 = some w.2) → Ord (offsOf ls ws) r := fun r hrr ws hws pre x post e => okAt_iff.mpr fun o ho eo => by
    unfold offsOf at ho
    rcases List.mem_append.mp ho with ho | ho
    · obtain ⟨t, ht, rfl⟩ := List.mem_map.mp ho
      obtain ⟨h1, h2⟩ := List.mem_filter.mp ht
      subst eo
      exact hoff r hrr t h1 (of_decide_eq_true h2) pre post e
    · obtain ⟨w, hw, ho⟩ := List.mem_flatMap.mp ho
      obtain ⟨y, hy, rfl⟩ := List.mem_map.mp ho
      obtain ⟨h1, h2⟩ := List.mem_filter.mp hy
      subst eo
      obtain ⟨pre', post', e1, h3, _⟩ := first_split (hws w hw)
      have hyw : y ≠ w.2 := by simpa using h2
      exact ⟨w.2, List.mem_singleton.mpr rfl, before (e.symm.trans e1) (fun z => h3 _ z h1) hyw⟩
  refine ⟨?_, fun t ht e => ?_⟩
  · cases rows with
    | nil => exact absurd rfl hne
    | cons r rows => exact ord_full (hr r List.mem_cons_self) (hord r List.mem_cons_self [] fun w hw => by cases hw)
  · have h1 := hk t ht
    unfold lineKept at h1
    rw [if_pos e] at h1
    obtain ⟨r, hrr, hm⟩ := List.any_eq_true.mp h1
    exact ord_full (hr r hrr) (hord r hrr [(t.b, t.c)] fun w hw => by rw [List.mem_singleton.mp hw]; exact of_decide_eq_true hm)
/-! ### rounds: what is told fits, and rounds that rows give are fit -/
theorem rd_isLine {es : List Str} {rs : List Rd} (h : RdsOk es rs) {t : Ln} (ht : t ∈ rdLines rs) : isLine t es = true := (rd_line h ht).2
theorem fit_kept {es : List Str} {rs : List Rd} {rows : List (List Str)} (h : RdsOk es rs) (hr : ∀ r ∈ rows, r.Perm es) (hne : rows ≠ []) (hf : ∀ r ∈ rs, cardsF rows r.1 = r.2) : KeptR es rs :=
  rows_kept (fun t ht => rd_isLine h ht) hr hne (by rw [fit_keeps h.rd hr, decide_eq_true hf])
/-- the rows that are told -/
def toldF (es : List Str) (rs : List Rd) : List (List Str) := rowsF (sortS es) (dedup (sortD (rdLines rs)))
theorem told_fits {es : List Str} {rs : List Rd} (h : RdsOk es rs) (k : KeptR es rs) : (∀ r ∈ toldF es rs, r.Perm es) ∧ ∀ r ∈ rs, cardsF (toldF es rs) r.1 = r.2 := by
  have nd := (entP h.en).2.1
  have hm : ∀ t, t ∈ dedup (sortD (rdLines rs)) ↔ t ∈ rdLines rs := fun t => by rw [mem_dedup, mem_sortD]
  have k2 : Kept (sortS es) (dedup (sortD (rdLines rs))) := (kept_perm fun x => mem_sortS).mpr ((kept_congr hm).mpr k)
  obtain ⟨h1, h2⟩ := kept_rows (sortS_nodup nd) (fun t ht => by rw [isLine_congr (es' := es) fun x => mem_sortS]; exact rd_isLine h ((hm t).mp ht)) k2
  have hp : ∀ r ∈ toldF es rs, r.Perm es := fun r hr => (h1 r hr).trans (sortS_perm es)
  refine ⟨hp, ?_⟩
  rw [keeps_congr hm] at h2
  exact of_decide_eq_true ((fit_keeps (rows := toldF es rs) h.rd hp).symm.trans h2)
/-! ### the first bar -/
theorem sub_filter {ns : List Str} : ∀ {l : List Str}, l.Sublist ns → ns.Nodup → l = ns.filter fun x => decide (x ∈ l) := fun h => by
  induction h with
  | slnil => intro _; rfl
  | @cons l m a h ih =>
    intro nd
    obtain ⟨n1, n2⟩ := List.nodup_cons.mp nd
    rw [List.filter_cons_of_neg (by rw [decide_eq_true_eq]; exact fun z => n1 (h.subset z))]
    exact ih n2
  | @cons_cons l m a h ih =>
    intro nd
    obtain ⟨n1, n2⟩ := List.nodup_cons.mp nd
    rw [List.filter_cons_of_pos (by rw [decide_eq_true_eq]; exact List.mem_cons_self)]
    refine congrArg (a :: ·) ((ih n2).trans (List.filter_congr fun x hx => decide_eq_decide.mpr ⟨List.mem_cons_of_mem _, fun z => ?_⟩))
    rcases List.mem_cons.mp z with z | z
    · exact absurd (z ▸ hx) n1
    · exact z
theorem wk_sub {offs : List Off} : ∀ (n : Nat) (row rest : List Str), (wk offs n row rest).2.Sublist rest
  | 0, _, _ => List.Sublist.refl _
  | n + 1, row, rest => by
    unfold wk
    by_cases e : rest.filter (okAt offs row) = []
    · rw [if_pos e]; exact List.Sublist.refl _
    · rw [if_neg e]; exact (wk_sub n _ _).trans List.filter_sublist
theorem mem_taken {ns : List Str} {offs : List Off} (hn : ns.Nodup) {x : Str} (hx : x ∈ ns) : x ∈ takenF ns offs ↔ Reach ns offs x := by
  obtain ⟨h1, h2, h3⟩ := tk_ok ns offs ns.length
  show x ∈ tkF ns offs ns.length ↔ _
  refine ⟨h2.re x, fun hr => ?_⟩
  rcases h3 with h3 | h3
  · exact (perm_sub2 h1 h2.sub (Nat.le_of_eq h3.symm)).mem_iff.mpr hx
  · exact h2.mem h3 hr
theorem left_same {ns : List Str} {offs : List Off} (hn : ns.Nodup) : (walkedF ns offs).2 = ns.filter fun x => !decide (x ∈ takenF ns offs) := by
  obtain ⟨h1, h2, h3⟩ := walked_ok ns offs
  refine (sub_filter (l := (walkedF ns offs).2) (wk_sub _ _ _) hn).trans ?_
  refine List.filter_congr fun x hx => ?_
  rw [Bool.eq_iff_iff, decide_eq_true_eq, Bool.not_eq_true', decide_eq_false_iff_not, mem_taken hn hx]
  have nd := h1.nodup_iff.mpr hn
  constructor
  · intro hm hr
    have hrow : x ∈ (walkedF ns offs).1 := h2.mem (fun y hy ok => by
      rcases List.mem_append.mp (h1.mem_iff.mpr hy) with h | h
      · exact h
      · rw [h3 y h] at ok; cases ok) hr
    exact (List.nodup_append.mp nd).2.2 x hrow x hm rfl
  · intro hr
    rcases List.mem_append.mp (h1.mem_iff.mpr hx) with h | h
    · exact absurd (h2.re x h) hr
    · exact h
def wishOf : Option Ln → List (List Str × Str)
  | none => []
  | some t => [(t.b, t.c)]
/-- the law's own -/
def leftOf (ns : List Str) (ls : List Ln) (c : Option Ln) : List Str := ns.filter fun x => !decide (x ∈ takenF ns (offsOf ls (wishOf c)))
def callsW (ls : List Ln) : List (Option Ln) := [none] ++ (callsOf (sortD ls)).map some
def lawBar (ns : List Str) (ls : List Ln) : Option (Option Ln × List Str) := ((callsW ls).find? fun c => !decide (leftOf ns ls c = [])).map fun c => (c, leftOf ns ls c)
theorem bar_same {ns : List Str} {ls : List Ln} (hn : ns.Nodup) (hs : sortD ls = ls) : barF ns ls = lawBar ns ls := by
  unfold lawBar callsW barF
  rw [hs]
  have hl : ∀ c, leftOf ns ls c = (walkedF ns (offsOf ls (wishOf c))).2 := fun c => (left_same hn).symm
  by_cases e : (walkedF ns (offsOf ls [])).2 = []
  · rw [if_pos e, List.singleton_append, List.find?_cons_of_neg (by rw [hl]; show ¬ (!decide ((walkedF ns (offsOf ls [])).2 = [])) = true; rw [decide_eq_true e]; simp), List.find?_map, Option.map_map]
    have e1 : ((fun c => !decide (leftOf ns ls c = [])) ∘ some) = fun t : Ln => !decide ((walkedF ns (offsOf ls [(t.b, t.c)])).2 = []) := funext fun t => by
      show (!decide (leftOf ns ls (some t) = [])) = _
      rw [hl]; rfl
    rw [e1]
    refine congrArg (fun f => Option.map f _) (funext fun t => ?_)
    show _ = (some t, leftOf ns ls (some t))
    rw [hl]; rfl
  · rw [if_neg e, List.singleton_append, List.find?_cons_of_pos (by rw [hl]; show (!decide ((walkedF ns (offsOf ls [])).2 = [])) = true; rw [decide_eq_false e]; rfl)]
    show _ = some (none, leftOf ns ls none)
    rw [hl]; rfl
theorem law_bar {es : List Str} {rs : List Rd} (h : RdsOk es rs) : barF es (dedup (sortD (rdLines rs))) = lawBar es (lawLines rs) := by
  rw [law_lines h.rd]
  exact bar_same (entP h.en).2.1 (sortD_self (List.Pairwise.sublist (dedup_sub _) (sortD_sorted _)))
end T82

namespace T82
open PySem L2 D1 Rp
/-! ### who gets a card: the program's -/
def posD (sp : DctS Int) (x : Str) : Int := (lkS x sp.kvs).getD 0
def stepM (sp : DctS Int) (m n : Str) : Str := if posD sp n < posD sp m then n else m
def firstD (sp : DctS Int) (f : List Str) : Str := f.foldl (stepM sp) (f.headD "")
theorem lk_mem {β : Type} {x : Str} {d : β} : ∀ {l : List (Str × β)}, (l.map (·.1)).Nodup → (x, d) ∈ l → lkS x l = some d
  | [], _, h => by cases h
  | kv :: l, hn, h => by
    rw [List.map_cons] at hn
    obtain ⟨h1, h2⟩ := List.nodup_cons.mp hn
    unfold lkS
    rcases List.mem_cons.mp h with e | h
    · rw [← e, if_pos rfl]
    · rw [if_neg fun e => h1 (by rw [e]; exact List.mem_map.mpr ⟨(x, d), h, rfl⟩)]
      exact lk_mem h2 h
theorem lk_spots {row : List Str} {i : Nat} {x : Str} (hn : row.Nodup) (h : row[i]? = some x) : lkS x (spotsOf row).kvs = some (i : Int) := by
  refine lk_mem ?_ (List.mem_map.mpr ⟨((i : Int), x), List.mem_of_getElem? (enumd_at h), rfl⟩)
  show (((enumd row).map fun p => (p.2, p.1)).map (·.1)).Nodup
  rw [List.map_map]
  have e : (enumd row).map ((fun x => x.1) ∘ fun p => (p.2, p.1)) = row := enumd_snd row
  rw [e]
  exact hn
theorem pos_at {row : List Str} {i : Nat} {x : Str} (hn : row.Nodup) (h : row[i]? = some x) : posD (spotsOf row) x = (i : Int) := by
  unfold posD
  rw [lk_spots hn h]; rfl
theorem first_min {sp : DctS Int} : ∀ (l : List Str) (m : Str), (l.foldl (stepM sp) m = m ∨ l.foldl (stepM sp) m ∈ l) ∧ posD sp (l.foldl (stepM sp) m) ≤ posD sp m ∧ ∀ y ∈ l, posD sp (l.foldl (stepM sp) m) ≤ posD sp y
  | [], m => ⟨.inl rfl, Int.le_refl _, fun y hy => by cases hy⟩
  | a :: l, m => by
    obtain ⟨h1, h2, h3⟩ := first_min (sp := sp) l (stepM sp m a)
    rw [List.foldl_cons]
    have hs : posD sp (stepM sp m a) ≤ posD sp m ∧ posD sp (stepM sp m a) ≤ posD sp a ∧ (stepM sp m a = m ∨ stepM sp m a = a) := by
      unfold stepM
      split
      · exact ⟨by omega, Int.le_refl _, .inr rfl⟩
      · exact ⟨Int.le_refl _, by omega, .inl rfl⟩
    refine ⟨?_, Int.le_trans h2 hs.1, fun y hy => ?_⟩
    · rcases h1 with e | h
      · rw [e]
        rcases hs.2.2 with e2 | e2
        · exact .inl e2
        · exact .inr (by rw [e2]; exact List.mem_cons_self)
      · exact .inr (List.mem_cons_of_mem _ h)
    · rcases List.mem_cons.mp hy with e | hy
      · rw [e]; exact Int.le_trans h2 hs.2.1
      · exact h3 y hy
theorem firstD_is {row f : List Str} (hn : row.Nodup) (hf : ∀ x ∈ f, x ∈ row) (hne : f ≠ []) : firstIn row f = some (firstD (spotsOf row) f) := by
  have hm : firstD (spotsOf row) f ∈ f ∧ ∀ y ∈ f, posD (spotsOf row) (firstD (spotsOf row) f) ≤ posD (spotsOf row) y := by
    cases f with
    | nil => exact absurd rfl hne
    | cons a f =>
      obtain ⟨h1, h2, h3⟩ := first_min (sp := spotsOf row) (a :: f) a
      refine ⟨?_, h3⟩
      rcases h1 with e | h
      · show (a :: f).foldl (stepM (spotsOf row)) a ∈ a :: f
        rw [e]; exact List.mem_cons_self
      · exact h
  obtain ⟨y, hy, hyf⟩ := first_some (List.Perm.refl row) hf hne
  obtain ⟨pre, post, e, h1, _⟩ := first_split hy
  have hyp : row[pre.length]? = some y := by rw [e]; simp
  obtain ⟨i, hi, hx⟩ := List.getElem_of_mem (hf _ hm.1)
  have hx' : row[i]? = some (firstD (spotsOf row) f) := by rw [List.getElem?_eq_getElem hi, hx]
  have hle := hm.2 y hyf
  rw [pos_at hn hx', pos_at hn hyp] at hle
  have hle' : i ≤ pre.length := by omega
  rw [hy]
  refine congrArg some ?_
  rcases Nat.lt_or_eq_of_le hle' with hlt | heq
  · have : (firstD (spotsOf row) f) ∈ pre := by
      have e3 : row[i]? = (pre ++ y :: post)[i]? := congrArg (fun l : List Str => l[i]?) e
      rw [List.getElem?_append_left hlt] at e3
      exact List.mem_of_getElem? (e3.symm.trans hx')
    exact absurd hm.1 (h1 _ this)
  · subst heq
    exact Option.some.inj (hyp.symm.trans hx')
theorem cards_first {rows : List (List Str)} {f ns : List Str} (hr : ∀ r ∈ rows, r.Perm ns) (hn : ns.Nodup) (hf : ∀ x ∈ f, x ∈ ns) (hne : f ≠ []) : sortS (dds ((rows.map spotsOf).map fun sp => firstD sp f)) = cardsF rows f := by
  unfold cardsF
  refine congrArg (fun l => sortS (dds l)) ?_
  induction rows with
  | nil => rfl
  | cons r rows ih =>
    have hrr := hr r List.mem_cons_self
    have h1 := firstD_is (hrr.nodup_iff.mpr hn) (fun x hx => hrr.mem_iff.mpr (hf x hx)) hne
    have h2 : (r.filter fun n => decide (n ∈ f)).take 1 = [firstD (spotsOf r) f] := by
      unfold firstIn at h1
      cases e : r.filter fun n => decide (n ∈ f) with
      | nil => rw [e] at h1; cases h1
      | cons a l =>
        rw [e] at h1
        rw [← Option.some.inj h1]
        rfl
    rw [List.map_cons, List.map_cons, List.flatMap_cons, h2, ih fun r hr' => hr r (List.mem_cons_of_mem _ hr')]
    rfl
/-- a panel that may be asked -/
structure PanG {C : Addr} (p : Pan C) : Prop where
  ns : Lok p.names
  en : areEntries p.names = true
  so : SortedS p.names
  pm : ∀ r ∈ p.orders, r.Perm p.names
  few : p.orders.length < 64
theorem PanG.rok {C : Addr} {p : Pan C} (h : PanG p) : Rok p.orders := ⟨fun r hr => ⟨fun z hz => h.ns.1 z ((h.pm r hr).mem_iff.mp hz), by rw [(h.pm r hr).length_eq]; exact h.ns.2⟩, Nat.lt_trans h.few (by decide)⟩
theorem PanG.ok {C : Addr} {p : Pan C} (h : PanG p) : PanOk p := ⟨h.ns, h.rok⟩
def isFitF {C : Addr} (es : List Str) (rs : List Rd) : Od (Pan C) → Bool
  | .no => false
  | .is p => decide (p.names = sortS es) && decide ((rs.filter fun r => !decide (cardsF p.orders r.1 = r.2)) = [])
def OdG {C : Addr} (es : List Str) : Od (Pan C) → Prop
  | .no => True
  | .is p => Lok p.names ∧ (p.names = sortS es → PanG p)
/-- the panel that is told -/
def tellF (CP : Addr) (es : List Str) (rs : List Rd) : Option (Pan CP) := somePan CP (sortS es) (dedup (sortD (rdLines rs)))
def whyF (es : List Str) (rs : List Rd) : Option (Option Ln × List Str) := barF (sortS es) (dedup (sortD (rdLines rs)))
theorem isField_congr {f es es' : List Str} (h : ∀ x, x ∈ es ↔ x ∈ es') (hf : isField f es = true) : isField f es' = true := by
  unfold isField isLot at *
  have e1 : decide (∀ x ∈ f, x ∈ es) = decide (∀ x ∈ f, x ∈ es') := decide_eq_decide.mpr ⟨fun hh x hx => (h x).mp (hh x hx), fun hh x hx => (h x).mpr (hh x hx)⟩
  rw [← e1]; exact hf
theorem cards_lay {rows : List (List Str)} {f : List Str} (h : Lok f) : Da.lay (cardsF rows f) := fun x hx => by
  obtain ⟨r, _, h1⟩ := mem_cards.mp hx
  obtain ⟨_, _, _, _, h2⟩ := first_split h1
  exact (h.1 x h2).2
section
variable {P : Program} {w : World} {K : PySem.W.Frag} {mg : Str → Option Value} {base : Heap} {f C CP : Addr} {fd : FuncData}
theorem c_check_field (D : C8.Def K mg "check_field" sCheckField f fd) (b : Binds K fd ["value", "entries"] []) (cF : C8.Cal P w K mg base 5 "is_field" (P2 (fun l es => Lok l ∧ Lok es) isField) []) :
    C8.Cal P w K mg base 6 "check_field" (P2 (fun l es => (Lok l ∧ Lok es) ∧ isField l es = true) (fun _ _ => ())) [] := by
  refine fn2 D b scCheckField rfl fun cdv A outer s H E G u v l es hr r1 r2 h => ?_
  exact Bl.ifF (ET.eq (ET.not (ET.val (Ev.call2 cF hr (Ev.v 0 rfl r1) (Ev.v 1 rfl r2) h.1))) (by rw [h.2]; rfl)) (Bl.nil fun _ _ => rfl)
end
section
variable {P : Program} {w : World} {K : PySem.W.Frag} {mg : Str → Option Value} {base : Heap} {f C : Addr} {fd : FuncData}
theorem we_field {X : Cx} {σ : St} {G H : Hp} {Q : VK} {q : Addr} {i j : Nat} {b' : Int} {x y : Str} {v : V} {ns : List Str} {p1 p2 p3 p4 p5 p6 p7 p8 p9 p10 p11 p12 p13 p14 : Pos} {k1} (B : Bt X.mg) (cS : C8.Cal X.prog X.w X.K X.mg X.base 3 "_law_shuffled" (PShuf Str) []) (cD : C8.Cal X.prog X.w X.K X.mg X.base 2 "_law_draw" PDraw []) (hr : Room 3 X.A) (s : Same G H) (pq : Purse q b' G H) (hb : b' < 2 ^ 37) (hi : σ[i]? = some (some (.ref q))) (hj : σ[j]? = some (some v)) (r : rp G v ns) (hn : Nm8 ns)
    (kk : ∀ G' H' w (f : List Str), GrM (Mq q) G H G' H' → Purse q (b' + 13) G' H' → Part f ns → rp G' w f → Q w H')
    (hN : X.N[i]? = some x := by rfl) (hM : X.N[j]? = some y := by rfl) (hv : Vis X.env.scope x := by first | exact Or.inl rfl | exact Or.inr (Or.inl rfl) | exact Or.inr (Or.inr rfl)) (hw : Vis X.env.scope y := by first | exact Or.inl rfl | exact Or.inr (Or.inl rfl) | exact Or.inr (Or.inr rfl))
    (hd : (x == ("__debug__" : Str)) = false := by decide) (hcd : (x == ("__classdict__" : Str)) = false := by decide) (hd2 : (y == ("__debug__" : Str)) = false := by decide) (hcd2 : (y == ("__classdict__" : Str)) = false := by decide)
    (g1 : Gl X "sorted" := by rfl) (g2 : Gl X "_law_shuffled" := by rfl) (g3 : Gl X "_law_draw" := by rfl) (g4 : Gl X "len" := by rfl) (c1 : starEach [.Subscript (.Call (.Name "_law_shuffled" p1) [.Name x p2, .Name y p3] [] p4) (.Slice none (some (.BinOp (.Constant (.int 1) k1 p5) .Add (.Call (.Name "_law_draw" p6) [.Name x p7, .Call (.Name "len" p8) [.Name y p9] [] p10] [] p11) p12)) none p13) p14] X.env = (false, eval (.Subscript (.Call (.Name "_law_shuffled" p1) [.Name x p2, .Name y p3] [] p4) (.Slice none (some (.BinOp (.Constant (.int 1) k1 p5) .Add (.Call (.Name "_law_draw" p6) [.Name x p7, .Call (.Name "len" p8) [.Name y p9] [] p10] [] p11) p12)) none p13) p14) X.env) :: starEach [] X.env := by rfl)
    {ps pc : Pos} (c2 : (backTo pc (starEach [] X.env)).any (·.1) = false := by rfl) (c3 : starEach [.Name x p2, .Name y p3] X.env = (false, eval (.Name x p2) X.env) :: starEach [.Name y p3] X.env := by rfl) (c4 : starEach [.Name y p3] X.env = (false, eval (.Name y p3) X.env) :: starEach [] X.env := by rfl) (c5 : (backTo p4 (starEach [.Name y p3] X.env)).any (·.1) = false := by rfl)
    (c6 : starEach [.Name x p7, .Call (.Name "len" p8) [.Name y p9] [] p10] X.env = (false, eval (.Name x p7) X.env) :: starEach [.Call (.Name "len" p8) [.Name y p9] [] p10] X.env := by rfl) (c7 : starEach [.Call (.Name "len" p8) [.Name y p9] [] p10] X.env = (false, eval (.Call (.Name "len" p8) [.Name y p9] [] p10) X.env) :: starEach [] X.env := by rfl) (c8 : (backTo p11 (starEach [.Call (.Name "len" p8) [.Name y p9] [] p10] X.env)).any (·.1) = false := by rfl)
    (c9 : starEach [.Name y p9] X.env = (false, eval (.Name y p9) X.env) :: starEach [] X.env := by rfl) (c10 : (backTo p10 (starEach [] X.env)).any (·.1) = false := by rfl) :
    WE X (.Call (.Name "sorted" ps) [.Subscript (.Call (.Name "_law_shuffled" p1) [.Name x p2, .Name y p3] [] p4) (.Slice none (some (.BinOp (.Constant (.int 1) k1 p5) .Add (.Call (.Name "_law_draw" p6) [.Name x p7, .Call (.Name "len" p8) [.Name y p9] [] p10] [] p11) p12)) none p13) p14] [] pc) σ H Q := by
  have h8 := hn.few
  have h1 := hn.pos
  refine we_sortedS B (we_slToI (α := Str) (we_call2 cS hr (we_v i hi (we_v j hj ?_ hM hw hd2 hcd2) hN hv hd hcd) (by decide) g2 (by decide) c3 c4 c5)) g1 c1 c2
  refine ⟨G, q, v, ns, b', rfl, s, pq, r, by omega, by omega, fun G1 H1 w1 l1 d1 e1 pm r1 => ?_⟩
  refine we_op op_add (Ev.ap d1.s (Ev.int (i := 1)) fun G2 H2 v2 d2 r2 => ?_)
  cases r2
  refine we_call2 cD hr (we_v i hi (Ev.ap d2.s (Ev.lenL B (Ev.v j hj (rup (d1.g.trans d2.g) r) hM hw hd2 hcd2) g4 c9 c10) fun G3 H3 v3 d3 r3 => ?_) hN hv hd hcd) (by decide) g3 (by decide) c6 c7 c8
  cases r3
  have e3 := (e1.gr d2).gr d3
  refine ⟨G3, q, _, _, rfl, d3.s, e3, by omega, by omega, by omega, fun G4 H4 z d4 e4 z0 z1 => ?_⟩
  refine ⟨1, z, rfl, rfl, G4, l1, 1 + z, rfl, d4.s, rup ((d2.trans d3).g.trans d4.g) r1, fun G5 H5 w5 d5 r5 => ?_⟩
  have ez : (1 + z : Int) = ((1 + z).toNat : Nat) := by rw [Int.toNat_of_nonneg (by omega)]
  rw [ez, cutL_to] at r5
  have gA : GrM (Mq q) G H G5 H5 := ((d1.trans (d2.trans d3).any).trans d4).trans d5.any
  refine ⟨G5, _, d5.s, r5, by rw [List.length_take, pm.length_eq]; omega, fun p hp => ?_⟩
  have gn := Gr.new (o := .lst ((sortS (l1.take (1 + z).toNat)).map V.str)) d5.s hp
  exact kk _ _ _ _ (gA.trans gn.any) (((e4.gr d5).gr gn).le (by omega)) (part_cut pm hn (by omega)) ⟨p, _, rfl, upd_same, strs_to _⟩
end
/-! ### the law's own defs that only compute -/
theorem okAt_snoc {offs : List Off} {i : Nat} {o : Off} {t : List Str} {x : Str} (h : offs[i]? = some o) : okAt (offs.take (i + 1)) t x = (okAt (offs.take i) t x && (!decide (o.2 = x) || o.1.any fun z => decide (z ∈ t))) := by
  have e : offs.take (i + 1) = offs.take i ++ [o] := by rw [List.take_succ, h]; rfl
  unfold okAt
  rw [e, List.all_append]
  simp
theorem any_not {l t : List Str} : decide ((l.filter fun z => decide (z ∈ t)) = []) = !l.any fun z => decide (z ∈ t) := by
  rw [Bool.eq_iff_iff, decide_eq_true_eq, filter_nil_iff, Bool.not_eq_true', List.any_eq_false]
  exact ⟨fun h x hx => by rw [h x hx]; simp, fun h x hx => by simpa using h x hx⟩
theorem lawLines_snoc {rs : List Rd} {i : Nat} {c : Rd} (h : rs[i]? = some c) (g : List Ln → Rd → List Ln) (s : List Ln) : (rs.take (i + 1)).foldl g s = g ((rs.take i).foldl g s) c := by
  have e : rs.take (i + 1) = rs.take i ++ [c] := by rw [List.take_succ, h]; rfl
  rw [e, List.foldl_append]; rfl
section
variable {P : Program} {w : World} {K : PySem.W.Frag} {mg : Str → Option Value} {base : Heap} {f C CP : Addr} {fd : FuncData}
theorem c_law_cards (D : C8.Def K mg "_law_cards" sLawCards f fd) (b : Binds K fd ["rows", "field"] []) (B : Bt mg) : C8.Cal P w K mg base 1 "_law_cards" (P2 (fun rows fl => (∀ r ∈ rows, Lok r) ∧ rows.length < 64 ∧ Lok fl) cardsF) [] := by
  refine fn2 D b scLawCards rfl fun cdv A outer s H E G u v rows fl hr r1 r2 ⟨h1, h2, h3⟩ => ?_
  have a6 : sizeLine = 16777216 := rfl
  have hl : ∀ i, ((rows.take i).flatMap fun r => (r.filter fun n => decide (n ∈ fl)).take 1).length ≤ i := fun i => by
    have : ∀ l : List (List Str), (l.flatMap fun r => (r.filter fun n => decide (n ∈ fl)).take 1).length ≤ l.length := fun l => by
      induction l with
      | nil => exact Nat.le_refl _
      | cons r l ih =>
        rw [List.flatMap_cons, List.length_append, List.length_take, List.length_cons]
        omega
    exact Nat.le_trans (this _) (by rw [List.length_take]; exact Nat.min_le_left _ _)
  refine Bl.asg 2 (d := ([] : List Str)) Ev.nil (fun G1 fv s1 rf => ?_) scLawCards.nd
  refine Bl.for_ (fun i σ' G' => ∃ fv t3 t4, σ' = [some u, some v, some fv, t3, t4] ∧ rp G' fv ((rows.take i).flatMap fun r => (r.filter fun n => decide (n ∈ fl)).take 1))
    (EI.list (Ev.v 0 rfl (rup s1 r1))) tgB1 (pg_name (i := 3) scLawCards.nd rfl (by first | exact Or.inl rfl | exact Or.inr rfl)) (fun G2 s2 => ⟨fv, none, none, rfl, by rw [List.take_zero]; exact rup s2 rf⟩) ?_ ?_ PassesOwn.never
  · rintro i c σ1 G2 hc s12 ⟨fv, t3, t4, rfl, rf⟩ G3 σ2 s23 ⟨rw', rr, rfl⟩
    have hcl := h1 c (List.mem_of_getElem? hc)
    have hi : i < rows.length := (List.getElem?_eq_some_iff.mp hc).1
    have e5 : rows.take (i + 1) = rows.take i ++ [c] := by rw [List.take_succ, hc]; rfl
    refine Bl.asg 2 (d := (rows.take (i + 1)).flatMap fun r => (r.filter fun n => decide (n ∈ fl)).take 1) (Ev.eq (Ev.cat (Ev.v 2 rfl (rup s23 rf)) (Ev.eq (Ev.slTo (Ev.lcSel 4 (t := fun n => decide (n ∈ fl)) (EI.list (Ev.v 3 rfl rr)) (fun x hx G' v' s1' r' s H C2 cl fp => ET.inD hr.units65 (Ev.v 4 rfl r') (Ev.v 1 rfl (rup (((s1.trans s12).trans s23).trans s1') r2)) (hcl.1 x hx).2 h3.lay) (sz64 hcl.2) scLawCards.nd (blkOk_by (N := nLawCards) (sc := C8.fnScope sLawCards) (by decide +kernel))) (Ev.int (i := 1))) (cutL_to (n := 1))) ?_) ?_) (fun G4 fv2 s4 rf2 => Bl.nil fun G5 s5 => ⟨fv2, _, t4, rfl, rup s5 rf2⟩) scLawCards.nd
    · have := hl i
      rw [List.length_take]
      omega
    · rw [e5, List.flatMap_append]
      simp
  · rintro σ1 G2 s12 ⟨fv, t3, t4, rfl, rf⟩
    have hl2 := hl rows.length
    rw [List.take_length] at rf hl2
    exact Bl.rv (Ev.sortedSet B (Ev.v 2 rfl rf) (by omega))
theorem c_law_taken (D : C8.Def K mg "_law_taken" sLawTaken f fd) (b : Binds K fd ["names", "lines", "wishes"] []) (B : Bt mg) : C8.Cal P w K mg base 1 "_law_taken" (P3 (fun ns ls ws => Lok ns ∧ LnsOk ls ∧ WishOk ws) (fun ns ls ws => takenF ns (offsOf ls ws))) [] := by
  refine fn3 D b scLawTaken rfl fun cdv A outer s H E G u v z ns ls ws hr r1 r2 r3 ⟨hn, h⟩ => ?_
  have a6 : sizeLine = 16777216 := rfl
  have hb := offs_ok h.1 h.2
  refine bl_asgIf 3 4 (f := fun t : Ln => ((t.b, t.c) : Off)) (t := fun t : Ln => decide (t.a = "off")) (EI.list (Ev.v 1 rfl r2)) (fun t ht G' v' s1 r' s H C2 cl fp => ET.eqD hr.units (Ev.ix30 (Ev.v 4 rfl r')) Ev.str (h.1.1 t ht).1.2 zok_off.2) (fun t ht _ G' v' s1 r' s H C2 cl fp => Ev.tup2 (Ev.ix31 (Ev.v 4 rfl r')) (Ev.ix32 (Ev.v 4 rfl r')))
    h.1.sz scLawTaken.nd (blkOk_by (N := nLawTaken) (sc := C8.fnScope sLawTaken) (by decide +kernel)) (fun G1 v1 s1 q1 => ?_)
  refine Bl.for_ (fun i σ' G' => ∃ ov t4 t5 t6 t7, σ' = [some u, some v, some z, some ov, t4, t5, t6, t7, none, none, none, none] ∧ rp G' ov (offsOf ls (ws.take i)))
    (EI.list (Ev.v 2 rfl (rup s1 r3))) (tgB2 (K := K)) (pg_two (i := 5) (j := 6) rfl scLawTaken.nd rfl rfl (by first | exact Or.inl rfl | exact Or.inr rfl) (by first | exact Or.inl rfl | exact Or.inr rfl) (by first | exact .inl rfl | exact .inr rfl) (by first | exact .inl rfl | exact .inr rfl))
    (fun G2 s2 => ⟨v1, _, _, _, _, rfl, by rw [List.take_zero]; unfold offsOf; rw [List.flatMap_nil, List.append_nil]; exact rup s2 q1⟩) ?_ ?_ PassesOwn.never
  · rintro i c σ1 G2 hc s12 ⟨ov, t4, t5, t6, t7, rfl, ro⟩ G3 σ2 s23 ⟨fw, ew, rfw, rew, rfl⟩
    have hw := h.2.1 c (List.mem_of_getElem? hc)
    have e5 : ws.take (i + 1) = ws.take i ++ [c] := by rw [List.take_succ, hc]; rfl
    refine Bl.asg 3 (Ev.eq (Ev.cat (Ev.v 3 rfl (rup s23 ro)) (Ev.lcIf 7 (t := fun x => !decide (x = c.2)) (f := fun x => (([c.2], x) : Off)) (EI.list (Ev.v 5 rfl rfw)) (fun x hx G' v' s1 r' s H C cl fp => ET.neD hr.units (Ev.v 7 rfl r') (Ev.v 6 rfl (rup s1 rew)) (hw.1.1 x hx).2 hw.2.2)
      (fun x hx _ G' v' s1 r' s H C cl fp => Ev.tup2 (Ev.lst (EL.cons (Ev.v 6 rfl (rup s1 rew)) EL.nil) (show 1 ≤ 1000 by decide)) (Ev.v 7 rfl r')) (sz64 hw.1.2) scLawTaken.nd (blkOk_by (N := nLawTaken) (sc := C8.fnScope sLawTaken) (by decide +kernel))) ?_) (show _ = offsOf ls (ws.take (i + 1)) from ?_)) (fun G4 v4 s4 r4 => Bl.nil fun G5 s5 => ⟨v4, _, _, _, _, rfl, rup s5 r4⟩) scLawTaken.nd
    · have h1 := (offs_ok (ws := ws.take i) h.1 ⟨fun w hw => h.2.1 w (List.mem_of_mem_take hw), Nat.le_trans (by rw [List.length_take]; exact Nat.min_le_right _ _) h.2.2⟩).2
      have h2 := List.length_filter_le (fun x => !decide (x = c.2)) c.1
      have h3 := hw.1.2
      rw [List.length_map]
      omega
    · rw [e5]
      unfold offsOf
      rw [List.flatMap_append, List.append_assoc]
      simp
  · rintro σ1 G2 s12 ⟨ov, t4, t5, t6, t7, rfl, ro⟩
    rw [List.take_length] at ro
    generalize offsOf ls ws = offs at ro hb
    refine Bl.asg 8 (d := ([] : List Str)) Ev.nil (fun G3 tv s3 rt => ?_) scLawTaken.nd
    have hup : (upto ((ns.length : Nat) : Int).toNat).length = ns.length := by simp [upto]
    have sub : ∀ n, ∀ x ∈ tkF ns offs n, x ∈ ns := fun n => (tk_ok ns offs n).2.1.sub
    have tl : ∀ n, (tkF ns offs n).length ≤ ns.length := fun n => sub_len (tk_ok ns offs n).1 (sub n)
    have r1' := rup ((s1.trans s12).trans s3) r1
    refine Bl.for_ (fun i σ' G' => ∃ t4 t5 t6 t7 tv t9 t10 t11, σ' = [some u, some v, some z, some ov, t4, t5, t6, t7, some tv, t9, t10, t11] ∧ rp G' tv (tkF ns offs i))
      (EI.range1 B.range (Ev.lenL B (Ev.v 0 rfl r1')) ⟨by have := hn.2; omega, by have := hn.2; omega⟩) tgB1 (pg_name (i := 9) scLawTaken.nd rfl (by first | exact Or.inl rfl | exact Or.inr rfl))
      (fun G4 s4 => ⟨_, _, _, _, tv, none, none, none, rfl, rup s4 rt⟩) ?_ ?_ PassesOwn.never
    · rintro i c σ1 G4 hc s34 ⟨t4, t5, t6, t7, tv, t9, t10, t11, rfl, rt⟩ G5 σ2 s45 ⟨nw, rn, rfl⟩
      have lt : Da.lay (tkF ns offs i) := fun x hx => (hn.1 x (sub i x hx)).2
      have hl64 := hn.2
      have htl := tl i
      refine bl_asgSel 10 7 (t := fun x => !decide (x ∈ tkF ns offs i)) (EI.list (Ev.v 0 rfl (rup (s34.trans s45) r1'))) (fun x hx G' v' s1 r' s H C2 cl fp => ET.niD hr.units65 (Ev.v 7 rfl r') (Ev.v 8 rfl (rup (s45.trans s1) rt)) (hn.1 x hx).2 lt) (sz64 hn.2) scLawTaken.nd (blkOk_by (N := nLawTaken) (sc := C8.fnScope sLawTaken) (by decide +kernel)) (fun G6 fv s6 rf => ?_)
      refine Bl.for_ (fun j σ' G' => ∃ t6 t7 fv t11, σ' = [some u, some v, some z, some ov, t4, t5, t6, t7, some tv, some nw, some fv, t11] ∧ rp G' fv ((ns.filter fun x => !decide (x ∈ tkF ns offs i)).filter (okAt (offs.take j) (tkF ns offs i))))
        (EI.list (Ev.v 3 rfl (rup (s3.trans ((s34.trans s45).trans s6)) ro))) (tgB2 (K := K)) (pg_two (i := 11) (j := 6) rfl scLawTaken.nd rfl rfl (by first | exact Or.inl rfl | exact Or.inr rfl) (by first | exact Or.inl rfl | exact Or.inr rfl) (by first | exact .inl rfl | exact .inr rfl) (by first | exact .inl rfl | exact .inr rfl))
        (fun G7 s7 => ⟨_, _, fv, _, rfl, by
          have e0 : ((ns.filter fun x => !decide (x ∈ tkF ns offs i)).filter (okAt (offs.take 0) (tkF ns offs i))) = ns.filter fun x => !decide (x ∈ tkF ns offs i) := List.filter_eq_self.mpr fun x _ => rfl
          rw [e0]; exact rup s7 rf⟩) ?_ ?_ PassesOwn.never
      · rintro j o σ1 G7 ho s67 ⟨t6, t7, fv, t11, rfl, rf⟩ G8 σ2 s78 ⟨lw, mw, rl, rm, rfl⟩
        obtain ⟨o1, o2⟩ := hb.1 o (List.mem_of_getElem? ho)
        have hfr : ∀ x ∈ ((ns.filter fun x => !decide (x ∈ tkF ns offs i)).filter (okAt (offs.take j) (tkF ns offs i))), x ∈ ns := fun x hx => (List.mem_filter.mp (List.mem_filter.mp hx).1).1
        refine Bl.ifJ (fun σ' G' => ∃ t6 t7 fv t11, σ' = [some u, some v, some z, some ov, t4, t5, t6, t7, some tv, some nw, some fv, t11] ∧ rp G' fv ((ns.filter fun x => !decide (x ∈ tkF ns offs i)).filter (okAt (offs.take (j + 1)) (tkF ns offs i))))
          (ET.eqD hr.units (Ev.lcSel 7 (t := fun x => decide (x ∈ tkF ns offs i)) (EI.list (Ev.v 11 rfl rl)) (fun x hx G' v' s1 r' s H C2 cl fp => ET.inD hr.units65 (Ev.v 7 rfl r') (Ev.v 8 rfl (rup ((((s45.trans s6).trans s67).trans s78).trans s1) rt)) (o1.1 x hx).2 lt) (sz64 o1.2) scLawTaken.nd (blkOk_by (N := nLawTaken) (sc := C8.fnScope sLawTaken) (by decide +kernel))) Ev.nil (fun a ha => (o1.1 a (List.mem_filter.mp ha).1).2) lay_nil)
          (fun hh => ?_) (fun hh => ?_) fun σ' G9 s9 hN => Bl.nil fun G10 s10 => by
            obtain ⟨t6, t7, fv, t11, e, r⟩ := hN
            exact ⟨t6, t7, fv, t11, e, rup s10 r⟩
        · rw [any_not] at hh
          refine bl_asgSel 10 7 (t := fun x => !decide (x = o.2)) (EI.list (Ev.v 10 rfl (rup s78 rf))) (fun x hx G' v' s1 r' s H C2 cl fp => ET.neD hr.units (Ev.v 7 rfl r') (Ev.v 6 rfl (rup s1 rm)) (hn.1 x (hfr x hx)).2 o2.2) (Nat.lt_of_le_of_lt (Nat.le_trans (List.length_filter_le _ _) (List.length_filter_le _ _)) (sz64 hn.2)) scLawTaken.nd (blkOk_by (N := nLawTaken) (sc := C8.fnScope sLawTaken) (by decide +kernel)) (fun G9 fv2 s9 rf2 => Bl.nil fun G10 s10 => ⟨_, _, fv2, _, rfl, rup s10 ?_⟩)
          have e2 : (((ns.filter fun x => !decide (x ∈ tkF ns offs i)).filter (okAt (offs.take j) (tkF ns offs i))).filter fun x => !decide (x = o.2)) = (ns.filter fun x => !decide (x ∈ tkF ns offs i)).filter (okAt (offs.take (j + 1)) (tkF ns offs i)) := by
            rw [List.filter_filter]
            refine List.filter_congr fun x _ => ?_
            have h3 : (o.1.any fun z => decide (z ∈ tkF ns offs i)) = false := by simpa using hh
            rw [okAt_snoc ho, h3, Bool.or_false, Bool.and_comm]
            congr 2
            exact decide_eq_decide.mpr ⟨Eq.symm, Eq.symm⟩
          rw [← e2]
          exact rf2
        · rw [any_not] at hh
          have e2 : ((ns.filter fun x => !decide (x ∈ tkF ns offs i)).filter (okAt (offs.take j) (tkF ns offs i))) = (ns.filter fun x => !decide (x ∈ tkF ns offs i)).filter (okAt (offs.take (j + 1)) (tkF ns offs i)) := by
            refine List.filter_congr fun x _ => ?_
            have h3 : (o.1.any fun z => decide (z ∈ tkF ns offs i)) = true := by simpa using hh
            rw [okAt_snoc ho, h3, Bool.or_true, Bool.and_true]
          exact Bl.nil fun G9 s9 => ⟨_, _, fv, _, rfl, by rw [← e2]; exact rup (s78.trans s9) rf⟩
      · rintro σ1 G7 s67 ⟨t6, t7, fv, t11, rfl, rf⟩
        rw [List.take_length] at rf
        refine Bl.asg 8 (d := tkF ns offs (i + 1)) (Ev.eq (Ev.cat (Ev.v 8 rfl (rup ((s45.trans s6).trans s67) rt)) (Ev.eq (Ev.slTo (Ev.v 10 rfl rf) (Ev.int (i := 1))) (cutL_to (n := 1))) (by rw [List.length_take]; omega)) rfl) (fun G8 tv2 s8 rt2 => Bl.nil fun G9 s9 => ⟨_, _, _, _, tv2, _, _, _, rfl, rup s9 rt2⟩) scLawTaken.nd
    · rintro σ1 G4 s34 ⟨t4, t5, t6, t7, tv, t9, t10, t11, rfl, rt⟩
      rw [hup] at rt
      exact Bl.rv (Ev.v 8 rfl rt)
end
/-! ### the law's own defs: rows, lines, clashes -/
theorem taken_lok {ns : List Str} {offs : List Off} (h : Lok ns) : Lok (takenF ns offs) := by
  obtain ⟨h1, h2, _⟩ := tk_ok ns offs ns.length
  exact ⟨fun z hz => h.1 z (h2.sub z hz), Nat.lt_of_le_of_lt (sub_len h1 h2.sub) h.2⟩
theorem callsOf_snoc {ls : List Ln} {i : Nat} {c : Ln} (h : ls[i]? = some c) : callsOf (ls.take (i + 1)) = callsOf (ls.take i) ++ if c.a = "call" then [c] else [] := by
  have e : ls.take (i + 1) = ls.take i ++ [c] := by rw [List.take_succ, h]; rfl
  unfold callsOf
  rw [e, List.filter_append]
  congr 1
  by_cases hc : c.a = "call"
  · rw [if_pos hc]; simp [List.filter, hc]
  · rw [if_neg hc]; simp [List.filter, hc]
abbrev stepL (f : List Ln) (r : Rd) : List Ln := f ++ ((r.2.map fun n => (⟨"call", r.1, n⟩ : Ln)) ++ (r.1.filter fun n => !decide (n ∈ r.2)).map fun n => (⟨"off", r.2, n⟩ : Ln)).filter fun t => !decide (t ∈ f)
section
variable {P : Program} {w : World} {K : PySem.W.Frag} {mg : Str → Option Value} {base : Heap} {f C CP : Addr} {fd : FuncData}
theorem c_law_some_rows (D : C8.Def K mg "_law_some_rows" sLawSomeRows f fd) (b : Binds K fd ["names", "lines"] []) (B : Bt mg) (cT : C8.Cal P w K mg base 1 "_law_taken" (P3 (fun ns ls ws => Lok ns ∧ LnsOk ls ∧ WishOk ws) (fun ns ls ws => takenF ns (offsOf ls ws))) []) :
    C8.Cal P w K mg base 2 "_law_some_rows" (P2 (fun ns ls => Lok ns ∧ LnsOk ls) lawSome) [] := by
  refine fn2 D b scLawSomeRows rfl fun cdv A outer s H E G u v ns ls hr r1 r2 ⟨hn, hl⟩ => ?_
  have a6 : sizeLine = 16777216 := rfl
  intro G1 H1 D s1 s2 kn kr
  have r1' := rup s1 r1
  have r2' := rup s1 r2
  refine ws_asgW 2 (we_lstM (xs := [takenF ns (offsOf ls [])]) s2 (EL.cons (Ev.call3 (f := fun ns ls ws => takenF ns (offsOf ls ws)) cT hr (Ev.v 0 rfl r1') (Ev.v 1 rfl r2') Ev.nil ⟨hn, hl, wish_nil⟩) EL.nil) (fun G2 H2 vs ro g2 hro pr => ?_) (show 1 ≤ 1000 by decide)) scLawSomeRows.nd
  have hro0 : H1 ro = none := g2.fresh hro
  have gro2 := g2.s.free hro
  have g02 : Gr G1 H1 G2 (upd H2 ro (.lst vs)) := g2.off hro0 gro2
  refine ws_for (fun i σ' G' H' => ∃ acc t3 t4, σ' = [some u, some v, some (.ref ro), t3, t4] ∧ Gr G1 H1 G' H' ∧ G' ro = none ∧ H' ro = some (.lst acc) ∧ Paired (rp G') acc ([takenF ns (offsOf ls [])] ++ (callsOf (ls.take i)).map fun t => takenF ns (offsOf ls [(t.b, t.c)])))
    (G := G2) (Same.refl _) g02.s (EI.list (Ev.v 1 rfl (rup g02.g r2'))) tgB1 (pg_name (i := 3) scLawSomeRows.nd rfl (by first | exact Or.inl rfl | exact Or.inr rfl))
    (fun G3 H3 g3 => ⟨vs, none, none, rfl, g02.trans g3, g3.f ro gro2 (by rw [upd_same]; exact fun z => nomatch z), g3.hh _ _ upd_same, by
      rw [List.take_zero]
      show Paired (rp G3) vs ([takenF ns (offsOf ls [])] ++ [])
      rw [List.append_nil]
      exact pmono pr fun _ _ => rup g3.g⟩) ?_ ?_ PassesOwn.never
  · rintro i c σ1 G3 H3 hc s23 s33 ⟨acc, t3, t4, rfl, gA, nf, hf, pr⟩ G4 H4 σ2 g4 ⟨lw, rl, rfl⟩
    have hcl := hl.1 c (List.mem_of_getElem? hc)
    have nf4 := g4.f ro nf (by rw [hf]; exact fun z => nomatch z)
    have hf4 := g4.hh _ _ hf
    have gA4 := gA.trans g4
    have hal : acc.length ≤ 4001 := by
      have e1 := pr.length
      rw [List.length_append, List.length_map] at e1
      have e2 : (callsOf (ls.take i)).length ≤ ls.length := Nat.le_trans (List.length_filter_le _ _) (by rw [List.length_take]; exact Nat.min_le_right _ _)
      have e3 : ([takenF ns (offsOf ls [])] : List (List Str)).length = 1 := rfl
      have := hl.2
      omega
    refine ws_if (Same.refl _) g4.s (ET.eqD hr.units (Ev.ix30 (Ev.v 3 rfl rl)) Ev.str hcl.1.2 zok_call.2) (fun hh G5 H5 g5 => ?_) fun hh G5 H5 g5 => ?_
    · have nf5 := g5.f ro nf4 (by rw [hf4]; exact fun z => nomatch z)
      have hf5 := g5.hh _ _ hf4
      have g45 := g4.trans g5
      refine ws_exprW (WE.of (pe_bm PySem.F.plainAttrs_list PySem.F.slot_list_append PySem.F.type_list_append mt_append (pv 2) (pa_cons pe_we pa_nil)) ?_)
      refine ⟨.ref ro, rfl, .inl ⟨rfl, _, SqL.of hf5⟩, ?_⟩
      refine Ev.ap (a := takenF ns (offsOf ls [(c.b, c.c)])) g5.s (Ev.call3 (f := fun ns ls ws => takenF ns (offsOf ls ws)) cT hr (Ev.v 0 rfl (rup (gA.trans g45).g r1')) (Ev.v 1 rfl (rup (gA.trans g45).g r2')) (Ev.lst (EL.cons (Ev.tup2 (Ev.ix31 (Ev.v 3 rfl (rup g5.g rl))) (Ev.ix32 (Ev.v 3 rfl (rup g5.g rl)))) EL.nil) (show 1 ≤ 1000 by decide)) ⟨hn, hl, wish_one hcl⟩) fun G6 H6 w6 g6 r6 => ?_
      have nf6 := g6.f ro nf5 (by rw [hf5]; exact fun z => nomatch z)
      have hf6 := g6.hh _ _ hf5
      refine ⟨ro, acc, w6, rfl, rfl, hf6, by omega, ?_⟩
      have gE := ((gA4.trans g5).trans g6).off (o := .lst (acc ++ [w6])) hro0 nf6
      refine ws_nil (ws_nil ⟨G6, (g5.trans g6).g, gE.s, acc ++ [w6], _, t4, rfl, gE, nf6, upd_same, ?_⟩)
      rw [callsOf_snoc hc, if_pos (of_decide_eq_true hh), List.map_append, ← List.append_assoc]
      exact r2_cat.PairedAppend (pmono pr fun _ _ => rup (g45.trans g6).g) (.cons r6 .nil)
    · refine ws_nil (ws_nil ⟨G5, g5.g, g5.s, acc, _, t4, rfl, gA4.trans g5, g5.f ro nf4 (by rw [hf4]; exact fun z => nomatch z), g5.hh _ _ hf4, ?_⟩)
      rw [callsOf_snoc hc, if_neg (of_decide_eq_false hh), List.append_nil]
      exact pmono pr fun _ _ => rup (g4.trans g5).g
  · rintro σ1 G3 H3 s23 s33 ⟨acc, t3, t4, rfl, gA, nf, hf, pr⟩
    rw [List.take_length] at pr
    have gP := gA.promote hro0 nf hf
    have sU : Same G3 (upd G3 ro (.lst acc)) := same_new nf
    unfold lawSome at kr
    generalize hR : ([takenF ns (offsOf ls [])] ++ (callsOf ls).map fun t => takenF ns (offsOf ls [(t.b, t.c)])) = R at pr kr
    have hRl : R.length ≤ 4001 := by
      rw [← hR, List.length_append, List.length_map]
      have e2 := (calls_ok hl).2
      have e3 : ([takenF ns (offsOf ls [])] : List (List Str)).length = 1 := rfl
      omega
    have lyR : Da.lay R := fun x hx => by
      rw [← hR] at hx
      rcases List.mem_append.mp hx with hx | hx
      · rw [List.mem_singleton.mp hx]; exact (taken_lok hn).lay
      · obtain ⟨t, _, rfl⟩ := List.mem_map.mp hx
        exact (taken_lok hn).lay
    have rR : rp (upd G3 ro (.lst acc)) (.ref ro) R := ⟨ro, acc, rfl, upd_same, pmono pr fun _ _ => rup sU⟩
    refine ws_retW (Ev.ap gP.s (Ev.eq (Ev.ite (ET.eqD hr.units (Ev.lcSel 4 (t := fun r => decide ((r.length : Int) < (ns.length : Int))) (EI.list (Ev.v 2 rfl rR)) (fun r hr' G' v' s1 r' s H C2 cl fp => ET.lt (Ev.lenL B (Ev.v 4 rfl r')) (Ev.lenL B (Ev.v 0 rfl (rup (gP.g.trans s1) r1')))) (by omega) scLawSomeRows.nd (blkOk_by (N := nLawSomeRows) (sc := C8.fnScope sLawSomeRows) (by decide +kernel))) Ev.nil (fun a ha => lyR a (List.mem_filter.mp ha).1) lay_nil) (fun _ => Ev.opt (Ev.v 2 rfl rR)) fun _ => Ev.nonO (α := List (List Str)))
      (show _ = (if (R.filter fun r => decide (r.length < ns.length)) = [] then some R else none) from ?_)) fun G4 H4 w4 g4 r4 => kr G4 H4 w4 (gP.trans g4) r4)
    have e : (R.filter fun r => decide ((r.length : Int) < (ns.length : Int))) = R.filter fun r => decide (r.length < ns.length) := List.filter_congr fun r _ => decide_eq_decide.mpr Int.ofNat_lt
    rw [e]
    by_cases h : (R.filter fun r => decide (r.length < ns.length)) = []
    · rw [if_pos h, decide_eq_true h]; rfl
    · rw [if_neg h, decide_eq_false h]; rfl
theorem c_law_round_lines (D : C8.Def K mg "_law_round_lines" sLawRoundLines f fd) (b : Binds K fd ["rounds"] []) (B : Bt mg) : C8.Cal P w K mg base 1 "_law_round_lines" (P1 (fun rs => ∃ es, RdsOk es rs) lawLines) [] := by
  refine fn1 D b scLawRoundLines rfl fun cdv A outer s H E G v rs hr r ⟨es, h⟩ => ?_
  have a6 : sizeLine = 16777216 := rfl
  have hfold : ∀ i, (∀ t ∈ (rs.take i).foldl stepL [], t ∈ rdLines rs) ∧ ((rs.take i).foldl stepL []).length ≤ 4000 := fun i => by
    obtain ⟨h1, h2⟩ := lawLines_fold (es := es) (rs.take i) [] (fun r hr => h.rd r (List.mem_of_mem_take hr)) List.nodup_nil
    have hm : ∀ t ∈ (rs.take i).foldl stepL [], t ∈ rdLines rs := fun t ht => by
      rcases (h2 t).mp ht with hh | hh
      · cases hh
      · exact rd_mono (fun r hr => List.mem_of_mem_take hr) t hh
    exact ⟨hm, Nat.le_trans (sub_len h1 hm) (Nat.le_of_lt (rd_pre h).2.2.1.2)⟩
  refine Bl.asg 1 (d := ([] : List Ln)) Ev.nil (fun G1 fv s1 rf => ?_) scLawRoundLines.nd
  refine Bl.for_ (fun i σ' G' => ∃ fv t2 t3 t4 t5 t6, σ' = [some v, some fv, t2, t3, t4, t5, t6] ∧ rp G' fv ((rs.take i).foldl stepL []))
    (EI.list (Ev.v 0 rfl (rup s1 r))) (tgB2 (K := K)) (pg_two (i := 2) (j := 3) rfl scLawRoundLines.nd rfl rfl (by first | exact Or.inl rfl | exact Or.inr rfl) (by first | exact Or.inl rfl | exact Or.inr rfl) (by first | exact .inl rfl | exact .inr rfl) (by first | exact .inl rfl | exact .inr rfl))
    (fun G2 s2 => ⟨fv, none, none, none, none, none, rfl, by rw [List.take_zero]; exact rup s2 rf⟩) ?_ ?_ PassesOwn.never
  · rintro i c σ1 G2 hc s12 ⟨fv, t2, t3, t4, t5, t6, rfl, rf⟩ G3 σ2 s23 ⟨fw, cw, rfw, rcw, rfl⟩
    obtain ⟨c1, c2⟩ := h.lok c (List.mem_of_getElem? hc)
    have l1 := c1.2
    have l2 := c2.2
    obtain ⟨hm, hlen⟩ := hfold i
    refine bl_asgMap 4 5 (f := fun n => (⟨"call", c.1, n⟩ : Ln)) (EI.list (Ev.v 3 rfl rcw)) (fun n hn G' v' s1 r' s H C2 cl fp => Ev.tup3 Ev.str (Ev.v 2 rfl (rup s1 rfw)) (Ev.v 5 rfl r')) (sz64 c2.2) scLawRoundLines.nd (blkOk_by (N := nLawRoundLines) (sc := C8.fnScope sLawRoundLines) (by decide +kernel)) (fun G4 lv s4 rl => ?_)
    have hfl := List.length_filter_le (fun n => !decide (n ∈ c.2)) c.1
    refine Bl.asg 4 (Ev.cat (Ev.v 4 rfl rl) (Ev.lcIf 5 (t := fun n => !decide (n ∈ c.2)) (f := fun n => (⟨"off", c.2, n⟩ : Ln)) (EI.list (Ev.v 2 rfl (rup s4 rfw))) (fun n hn G' v' s1 r' s H C2 cl fp => ET.niD hr.units65 (Ev.v 5 rfl r') (Ev.v 3 rfl (rup (s4.trans s1) rcw)) (c1.1 n hn).2 c2.lay) (fun n hn _ G' v' s1 r' s H C2 cl fp => Ev.tup3 Ev.str (Ev.v 3 rfl (rup (s4.trans s1) rcw)) (Ev.v 5 rfl r')) (sz64 c1.2) scLawRoundLines.nd (blkOk_by (N := nLawRoundLines) (sc := C8.fnScope sLawRoundLines) (by decide +kernel))) (by rw [List.length_map, List.length_map]; omega)) (fun G5 lv2 s5 rl2 => ?_) scLawRoundLines.nd
    have hbl : ∀ t ∈ (c.2.map fun n => (⟨"call", c.1, n⟩ : Ln)) ++ (c.1.filter fun n => !decide (n ∈ c.2)).map fun n => (⟨"off", c.2, n⟩ : Ln), t ∈ rdLines rs := fun t ht => by
      have : t ∈ rdLines (rs.take (i + 1)) := by rw [rdLines_snoc hc]; exact List.mem_append_right _ ht
      exact rd_mono (fun r hr => List.mem_of_mem_take hr) t this
    have hbll : ((c.2.map fun n => (⟨"call", c.1, n⟩ : Ln)) ++ (c.1.filter fun n => !decide (n ∈ c.2)).map fun n => (⟨"off", c.2, n⟩ : Ln)).length ≤ 126 := by rw [List.length_append, List.length_map, List.length_map]; omega
    have e5 : (rs.take (i + 1)).foldl stepL [] = (rs.take i).foldl stepL [] ++ ((c.2.map fun n => (⟨"call", c.1, n⟩ : Ln)) ++ (c.1.filter fun n => !decide (n ∈ c.2)).map fun n => (⟨"off", c.2, n⟩ : Ln)).filter fun t => !decide (t ∈ (rs.take i).foldl stepL []) := lawLines_snoc hc stepL []
    generalize ((c.2.map fun n => (⟨"call", c.1, n⟩ : Ln)) ++ (c.1.filter fun n => !decide (n ∈ c.2)).map fun n => (⟨"off", c.2, n⟩ : Ln)) = bl at rl2 hbl hbll e5
    have hfl2 := List.length_filter_le (fun t => !decide (t ∈ (rs.take i).foldl stepL [])) bl
    refine Bl.asg 1 (d := (rs.take (i + 1)).foldl stepL []) (Ev.eq (Ev.cat (Ev.v 1 rfl (rup ((s23.trans s4).trans s5) rf)) (Ev.lcSel 6 (t := fun t => !decide (t ∈ (rs.take i).foldl stepL [])) (EI.list (Ev.v 4 rfl rl2)) (fun t ht G' v' s1 r' s H C2 cl fp => ET.niD hr.units65 (Ev.v 6 rfl r') (Ev.v 1 rfl (rup (((s23.trans s4).trans s5).trans s1) rf)) (rd_line h (hbl t ht)).1.lay (fun y hy => (rd_line h (hm y hy)).1.lay)) (by omega) scLawRoundLines.nd (blkOk_by (N := nLawRoundLines) (sc := C8.fnScope sLawRoundLines) (by decide +kernel))) (by omega)) e5.symm) (fun G6 fv2 s6 rf2 => Bl.nil fun G7 s7 => ⟨fv2, _, _, _, _, _, rfl, rup s7 rf2⟩) scLawRoundLines.nd
  · rintro σ1 G2 s12 ⟨fv, t2, t3, t4, t5, t6, rfl, rf⟩
    rw [List.take_length] at rf
    exact Bl.rv (Ev.sortedD B hr.units (Ev.v 1 rfl rf))
theorem lawLines_ok {es : List Str} {rs : List Rd} (h : RdsOk es rs) : LnsOk (lawLines rs) := by
  rw [law_lines h.rd]
  refine ⟨fun t ht => (rd_line h (mem_sortD.mp (mem_dedup.mp ht))).1, ?_⟩
  have h1 := dedup_length (sortD (rdLines rs))
  rw [sortD_length] at h1
  exact Nat.lt_of_le_of_lt h1 (rd_pre h).2.2.1.2
theorem kept_is {es : List Str} {rs : List Rd} (h : RdsOk es rs) : (!(lawSome es (lawLines rs)).isNone) = true ↔ KeptR es rs := by
  rw [← keptL (entP h.en).2.1 h.rd]
  cases lawSome es (lawLines rs) <;> simp
end
end T82

namespace T82
open PySem L2 D1 Rp
/-! ### what the law draws -/
theorem part_field {f ns : List Str} (h : Part f ns) (hn : Nm8 ns) : isField f ns = true := by
  have h8 := h.sub hn
  unfold isField isLot isAscending
  rw [h8.nok.1, decide_eq_true (sortS_self h.2.2.1).symm, decide_eq_true (h.1 : ∀ x ∈ f, x ∈ ns), decide_eq_false h.2.2.2]
  rfl
theorem Nm8.lok {ns : List Str} (h : Nm8 ns) : Lok ns := h.nok.lok
theorem Nm8.ent {ns : List Str} (h : Nm8 ns) : areEntries ns = true := by
  unfold areEntries
  rw [h.nok.1, decide_eq_false h.ne]
  rfl
/-- a round of these names -/
def RdP (ns : List Str) (r : Rd) : Prop := Part r.1 ns ∧ Part r.2 r.1
theorem RdP.ok {ns : List Str} {r : Rd} (h : RdP ns r) (hn : Nm8 ns) : (Lok r.1 ∧ Lok r.2) ∧ isRoundP r ns = true := by
  have h1 := h.1.sub hn
  have h2 := h.2.sub h1
  refine ⟨⟨h1.lok, h2.lok⟩, ?_⟩
  unfold isRoundP
  rw [part_field h.1 hn, part_field h.2 h1]
  rfl
theorem rds_ok {ns : List Str} {rs : List Rd} (hn : Nm8 ns) (h : ∀ r ∈ rs, RdP ns r) (hl : rs.length ≤ 30) : RdsOk ns rs := ⟨hn.lok, hn.ent, fun r hr => ((h r hr).ok hn).1, fun r hr => ((h r hr).ok hn).2, hl⟩
theorem cards_part {ns f : List Str} {rows : List (List Str)} (hr : ∀ r ∈ rows, r.Perm ns) (hne : rows ≠ []) (hf : Part f ns) : Part (cardsF rows f) f := by
  refine ⟨fun z hz => ?_, cards_nodup _ _, cards_sorted _ _, fun e => ?_⟩
  · obtain ⟨r, hrr, h1⟩ := mem_cards.mp hz
    obtain ⟨y, hy, hyf⟩ := first_some (hr r hrr) hf.1 hf.2.2.2
    rw [h1] at hy
    cases hy
    exact hyf
  · cases rows with
    | nil => exact hne rfl
    | cons r rows =>
      obtain ⟨y, hy, hyf⟩ := first_some (hr r List.mem_cons_self) hf.1 hf.2.2.2
      have : y ∈ cardsF (r :: rows) f := mem_cards.mpr ⟨r, List.mem_cons_self, hy⟩
      rw [e] at this
      cases this
def PRds : Sp := fun vs H Q _ => ∃ G q v u ns, ∃ rows : List (List Str), ∃ n : Nat, ∃ b : Int, vs = [.ref q, v, u, .int (n : Int)] ∧ Same G H ∧ Purse q b G H ∧ rp G v ns ∧ rp G u rows ∧ Nm8 ns ∧ (∀ r ∈ rows, r.Perm ns) ∧ rows ≠ [] ∧ rows.length ≤ 8 ∧ n ≤ 8 ∧ b < 2 ^ 36 ∧
  ∀ G' H' fo acc (rs : List Rd), GrM (Mq q) G H G' H' → Purse q (b + 240) G' H' → G' fo = none → H fo = none → q ≠ fo → H' fo = some (.lst acc) → Paired (rp G') acc rs → rs.length = n → (∀ r ∈ rs, RdP ns r) → Q (.ref fo) H'
section
variable {P : Program} {w : World} {K : PySem.W.Frag} {mg : Str → Option Value} {base : Heap} {f C CP : Addr} {fd : FuncData}
theorem c_law_rounds (D : C8.Def K mg "_law_rounds" sLawRounds f fd) (b : Binds K fd ["purse", "names", "rows", "many"] []) (B : Bt mg) (cD : C8.Cal P w K mg base 2 "_law_draw" PDraw []) (cS : C8.Cal P w K mg base 3 "_law_shuffled" (PShuf Str) []) (cC : C8.Cal P w K mg base 1 "_law_cards" (P2 (fun rows fl => (∀ r ∈ rows, Lok r) ∧ rows.length < 64 ∧ Lok fl) cardsF) []) :
    C8.Cal P w K mg base 4 "_law_rounds" PRds [] := by
  refine C8.cal0 D b .nil scLawRounds (fun vs H Q E h => ?_) fun cdv A outer s H vs Q E hr h => ?_
  · obtain ⟨G, q, v, u, ns, rows, n, b', rfl, _⟩ := h
    rfl
  · obtain ⟨G, q, v, u, ns, rows, n, b', rfl, sG, pq, r, ru, hn, hpm, hne, hr8, hn8, hb, kk⟩ := h
    refine ⟨_, pss_ws, ?_⟩
    refine ws_asgW 4 (we_lstM (xs := ([] : List Rd)) sG EL.nil (fun G1 H1 vs fo g1 hfo pr => ?_) (show 0 ≤ 1000 by decide)) scLawRounds.nd
    cases pr
    have hfo0 := g1.fresh hfo
    have pq1 := pq.gr g1
    have qfo : q ≠ fo := fun e => by subst e; exact pq.some hfo0
    have gfo1 := g1.s.free hfo
    have g1' := g1.trans (Gr.newM (o := .lst []) g1.s hfo)
    have hrl : ∀ r ∈ rows, Lok r := fun r hr => ⟨fun z hz => isName_zok (hn.names z ((hpm r hr).mem_iff.mp hz)), by rw [(hpm r hr).length_eq]; exact Nat.lt_of_le_of_lt hn.few (by decide)⟩
    have hup : (upto ((n : Nat) : Int).toNat).length = n := by simp [upto]
    refine ws_for (fun i σ' G' H' => ∃ acc t5 t6 t7, ∃ l' : List Rd, σ' = [some (.ref q), some v, some u, some (.int (n : Int)), some (.ref fo), t5, t6, t7] ∧ GrM (Mq q) G H G' H' ∧ Purse q (b' + 30 * (i : Nat)) G' H' ∧ G' fo = none ∧ H' fo = some (.lst acc) ∧ Paired (rp G') acc l' ∧ l'.length = i ∧ ∀ t ∈ l', RdP ns t)
      (G := G1) (Same.refl _) g1'.s (EI.range1 B.range (Ev.v 3 rfl (show rp _ (.int (n : Int)) (n : Int) from rfl)) ⟨by omega, by omega⟩) tgB1 (pg_name (i := 5) scLawRounds.nd rfl (by first | exact Or.inl rfl | exact Or.inr rfl))
      (fun G2 H2 g2 => ⟨[], none, none, none, [], rfl, (g1'.trans g2).any, ((pq1.off qfo).gr g2).le (by omega), g2.f fo gfo1 (by rw [upd_same]; exact fun z => nomatch z), g2.hh _ _ upd_same, .nil, rfl, fun t ht => by cases ht⟩) ?_ ?_ PassesOwn.never
    · rintro i c σ1 G2 H2 hc s12 s22 ⟨acc, t5, t6, t7, l', rfl, gA, p2, nf, hf, pr, hl', hg'⟩ G3 H3 σ2 g3 ⟨lw, rl, rfl⟩
      have hi : i < n := by rw [← hup]; exact (List.getElem?_eq_some_iff.mp hc).1
      have nf3 := g3.f fo nf (by rw [hf]; exact fun z => nomatch z)
      have hf3 := g3.hh _ _ hf
      refine ws_asgW 6 (we_field (i := 0) (j := 1) B cS cD hr g3.s (p2.gr g3) (by omega) rfl rfl (rup (gA.g.trans g3.g) r) hn fun G4 H4 fw fl g4 p4 hfl r4 => ?_) scLawRounds.nd
      have hf4 : H4 fo = some (.lst acc) := g4.h fo _ (fun e => qfo e.symm) hf3
      have nf4 := g4.f fo nf3 (by rw [hf3]; exact fun z => nomatch z)
      have gA4 := (gA.trans g3.any).trans g4
      have hfl8 := hfl.sub hn
      refine ws_asg 7 (Same.refl _) g4.s (Ev.call2 (f := cardsF) cC hr (Ev.v 2 rfl (rup gA4.g ru)) (Ev.v 6 rfl r4) ⟨hrl, by omega, hfl8.lok⟩) (fun G5 H5 cw g5 rc => ?_) scLawRounds.nd
      have nf5 := g5.f fo nf4 (by rw [hf4]; exact fun z => nomatch z)
      have hf5 := g5.hh _ _ hf4
      have p5 := p4.gr g5
      -- the end of the turn
      have fin : ∀ (D : Ends), D.nx = (fun σ' H' => ∃ G', Same G3 G' ∧ Same G' H' ∧ (∃ acc t5 t6 t7, ∃ l' : List Rd, σ' = [some (.ref q), some v, some u, some (.int (n : Int)), some (.ref fo), t5, t6, t7] ∧ GrM (Mq q) G H G' H' ∧ Purse q (b' + 30 * ((i + 1 : Nat))) G' H' ∧ G' fo = none ∧ H' fo = some (.lst acc) ∧ Paired (rp G') acc l' ∧ l'.length = i + 1 ∧ ∀ t ∈ l', RdP ns t)) → ∀ (G8 H8 : Hp) (cw : V) (cl : List Str), GrM (Mq q) G H G8 H8 → Same G4 G8 → Purse q (b' + 30 * ((i + 1 : Nat))) G8 H8 → G8 fo = none → H8 fo = some (.lst acc) → rp G8 cw cl → Part cl fl →
          WS (BX P w K mg base nLawRounds "_law_rounds" sLawRounds f cdv A outer s H E) (match C8.fnBody sLawRounds with | [_, .For _ _ [_, _, _, e] _ _, _] => [e] | _ => []) D [some (.ref q), some v, some u, some (.int (n : Int)), some (.ref fo), some lw, some fw, some cw] H8 := fun D hD G8 H8 cw cl g8 s48 p8 nf8 hf8 r8 hp8 => by
        refine ws_exprW (WE.of (pe_bm PySem.F.plainAttrs_list PySem.F.slot_list_append PySem.F.type_list_append mt_append (pv 4) (pa_cons pe_we pa_nil)) ?_)
        refine ⟨.ref fo, rfl, .inl ⟨rfl, _, SqL.of hf8⟩, ?_⟩
        refine Ev.ap (a := (fl, cl)) g8.s (Ev.tup2 (Ev.v 6 rfl (rup s48 r4)) (Ev.v 7 rfl r8)) fun G9 H9 tw g9 rt => ?_
        have hf9 := g9.hh _ _ hf8
        have nf9 := g9.f fo nf8 (by rw [hf8]; exact fun z => nomatch z)
        have hal : acc.length = i := pr.length.trans hl'
        refine ⟨fo, acc, tw, rfl, rfl, hf9, by rw [hal]; exact Nat.lt_of_lt_of_le hi (Nat.le_trans hn8 (by decide)), ?_⟩
        refine ws_nil ?_
        rw [hD]
        have gE := (g8.trans g9.any).off (o := .lst (acc ++ [tw])) hfo0 nf9
        refine ⟨G9, (g4.g.trans s48).trans g9.g, gE.s, _, some lw, some fw, some cw, l' ++ [(fl, cl)], rfl, gE, (p8.gr g9).off qfo, nf9, upd_same, r2_cat.PairedAppend (pmono pr fun _ _ => rup ((g3.g.trans (g4.g.trans s48)).trans g9.g)) (.cons rt .nil), by rw [List.length_append, hl']; rfl, fun t ht => ?_⟩
        rcases List.mem_append.mp ht with ht | ht
        · exact hg' t ht
        · rw [List.mem_singleton.mp ht]; exact ⟨hfl, hp8⟩
      refine ws_ifW (WT.of (pt_cmpR op_eq pe_we pe_int (nomark _)) (we_call2 cD hr (we_v 0 rfl (Ev.ap g5.s (Ev.int (i := 8)) fun G6 H6 v6 g6 r6 => ?_))))
      cases r6
      refine ⟨G6, q, 8, _, rfl, g6.s, p5.gr g6, by decide, by decide, by omega, fun G7 H7 z g7 p7 z0 z8 => ⟨rfl, _, rfl, ?_⟩⟩
      have gA7 := ((gA4.trans g5.any).trans g6.any).trans g7
      have s47 := (g5.g.trans g6.g).trans g7.g
      have nf6 := g6.f fo nf5 (by rw [hf5]; exact fun z => nomatch z)
      have hf6 := g6.hh _ _ hf5
      have hf7 : H7 fo = some (.lst acc) := g7.h fo _ (fun e => qfo e.symm) hf6
      have nf7 := g7.f fo nf6 (by rw [hf6]; exact fun z => nomatch z)
      by_cases hz : V.int z = V.int 0
      · rw [decide_eq_true hz]
        refine iteT (ws_asgW 7 (we_field (i := 0) (j := 6) B cS cD hr g7.s p7 (by omega) rfl rfl (rup s47 r4) hfl8 fun G8 H8 cw2 cl2 g8 p8 hcl r8 => ?_) scLawRounds.nd)
        exact ws_nil (fin _ rfl G8 H8 cw2 cl2 (gA7.trans g8) (s47.trans g8.g) (p8.le (by omega)) (g8.f fo nf7 (by rw [hf7]; exact fun z => nomatch z)) (g8.h fo _ (fun e => qfo e.symm) hf7) r8 hcl)
      · rw [decide_eq_false hz]
        exact iteF (ws_nil (fin _ rfl G7 H7 cw (cardsF rows fl) gA7 s47 (p7.le (by omega)) nf7 hf7 (rup (g6.g.trans g7.g) rc) (cards_part hpm hne hfl)))
    · rintro σ1 G2 H2 s12 s22 ⟨acc, t5, t6, t7, l', rfl, gA, p2, nf, hf, pr, hl', hg'⟩
      rw [hup] at hl' p2
      exact ws_retW (we_v 4 rfl (kk G2 H2 fo acc l' gA (p2.le (by omega)) nf hfo0 qfo hf pr hl' hg'))
end
def PSeen : Sp := fun vs H Q _ => ∃ G q, ∃ m n : Nat, ∃ b : Int, vs = [.ref q, .int (m : Int), .int (n : Int)] ∧ Same G H ∧ Purse q b G H ∧ 1 ≤ m ∧ m ≤ 7 ∧ n ≤ 7 ∧ b < 2 ^ 34 ∧
  ∀ G' H' L nw rw fo acc ns (rows : List (List Str)) (rs : List Rd), GrM (Mq q) G H G' H' → Purse q (b + 600) G' H' → H' L = some (.lst [nw, rw, .ref fo]) → rp G' nw ns → rp G' rw rows → G' fo = none → H fo = none → q ≠ fo → H' fo = some (.lst acc) → Paired (rp G') acc rs → Nm8 ns → ns.length ≤ m → (∀ r ∈ rows, r.Perm ns) → rows ≠ [] → rows.length ≤ 3 → rs.length ≤ n → (∀ r ∈ rs, RdP ns r) → Q (.ref L) H'
section
variable {P : Program} {w : World} {K : PySem.W.Frag} {mg : Str → Option Value} {base : Heap} {f C CP : Addr} {fd : FuncData}
theorem c_law_seen (D : C8.Def K mg "_law_seen" sLawSeen f fd) (b : Binds K fd ["purse", "most", "many"] []) (cD : C8.Cal P w K mg base 2 "_law_draw" PDraw []) (cN : C8.Cal P w K mg base 4 "_law_names" PWords []) (cR : C8.Cal P w K mg base 4 "_law_rows_of" PRows []) (cO : C8.Cal P w K mg base 4 "_law_rounds" PRds []) :
    C8.Cal P w K mg base 5 "_law_seen" PSeen [] := by
  refine C8.cal0 D b .nil scLawSeen (fun vs H Q E h => ?_) fun cdv A outer s H vs Q E hr h => ?_
  · obtain ⟨G, q, m, n, b', rfl, _⟩ := h
    rfl
  · obtain ⟨G, q, m, n, b', rfl, sG, pq, hm1, hm7, hn7, hb, kk⟩ := h
    refine ⟨_, pss_ws, ?_⟩
    refine ws_asgW 3 (we_call2 cN hr (we_v 0 rfl (we_op op_add (Ev.ap sG (Ev.int (i := 1)) fun G1 H1 v1 g1 r1 => ?_)))) scLawSeen.nd
    cases r1
    refine we_call2 cD hr (we_v 0 rfl (we_v 1 rfl ⟨G1, q, (m : Int), b', rfl, g1.s, pq.gr g1, by omega, by omega, by omega, fun G2 H2 z g2 p2 z0 z5 => ⟨1, z, rfl, rfl, ?_⟩⟩))
    have ez : (1 + z : Int) = ((1 + z).toNat : Nat) := by rw [Int.toNat_of_nonneg (by omega)]
    have g02 := g1.any.trans g2
    refine ⟨G2, q, (1 + z).toNat, _, by show [V.ref q, V.int (1 + z)] = [V.ref q, V.int (((1 + z).toNat : Nat) : Int)]; rw [← ez], g2.s, p2, by omega, by omega, fun G3 H3 nw ns g3 p3 hlen hso hnn hname rn => ?_⟩
    have hn : Nm8 ns := ⟨hname, hnn, hso, by omega, fun e => by rw [e] at hlen; simp at hlen; omega⟩
    refine ws_asgW 4 (we_call3 cR hr (we_v 0 rfl (we_v 3 rfl (we_op op_add (Ev.ap g3.s (Ev.int (i := 1)) fun G4 H4 v4 g4 r4 => ?_))))) scLawSeen.nd
    cases r4
    refine we_call2 cD hr (we_v 0 rfl (Ev.ap g4.s (Ev.int (i := 3)) fun G5 H5 v5 g5 r5 => ?_))
    cases r5
    refine ⟨G5, q, 3, _, rfl, g5.s, (p3.gr g4).gr g5, by decide, by decide, by omega, fun G6 H6 y g6 p6 y0 y3 => ⟨1, y, rfl, rfl, ?_⟩⟩
    have ey : (1 + y : Int) = ((1 + y).toNat : Nat) := by rw [Int.toNat_of_nonneg (by omega)]
    have g36 := (g4.trans g5).any.trans g6
    refine ⟨G6, q, nw, ns, (1 + y).toNat, _, by show [V.ref q, nw, V.int (1 + y)] = [V.ref q, nw, V.int (((1 + y).toNat : Nat) : Int)]; rw [← ey], g6.s, p6, rup g36.g rn, hn, by omega, by omega, fun G7 H7 rw7 rows g7 p7 hrl hrp rr => ?_⟩
    have g37 := g36.trans g7
    have g07 := (g02.trans g3).trans g37
    refine ws_retW (we_lst3 (we_v 3 rfl (we_v 4 rfl (we_call4 cO hr (we_v 0 rfl (we_v 3 rfl (we_v 4 rfl (we_call2 cD hr (we_v 0 rfl (we_op op_add (we_v 2 rfl (Ev.ap g7.s (Ev.int (i := 1)) fun G8 H8 v8 g8 r8 => ?_))))))))))))
    cases r8
    refine ⟨(n : Int), 1, rfl, rfl, G8, q, (n : Int) + 1, _, rfl, g8.s, p7.gr g8, by omega, by omega, by omega, fun G9 H9 x g9 p9 x0 x1 => ?_⟩
    have ex : (x : Int) = (x.toNat : Nat) := by rw [Int.toNat_of_nonneg x0]
    have g79 := g8.any.trans g9
    refine ⟨G9, q, nw, rw7, ns, rows, x.toNat, _, by rw [← ex], g9.s, p9, rup (g37.trans g79).g rn, rup g79.g rr, hn, hrp, fun e => by rw [e] at hrl; simp at hrl; omega, by omega, by omega, by omega, fun G10 H10 fo acc rs g10 p10 nf hf0 qfo hf pr hl hp => fun L hL => ?_⟩
    have gn := Gr.newM (o := .lst [nw, rw7, .ref fo]) g10.s hL
    have gA := ((g07.trans g79).trans g10).trans gn.any
    have fl : fo ≠ L := ne_of_none hf hL
    refine kk G10 _ L nw rw7 fo acc ns rows rs gA ((p10.gr gn).le (by omega)) upd_same (rup (g37.trans (g79.trans g10)).g rn) (rup (g79.trans g10).g rr) nf ((g07.trans g79).fresh hf0) qfo (by rw [upd_ne fl]; exact hf) pr hn (by omega) hrp (fun e => by rw [e] at hrl; simp at hrl; omega) (by omega) (by omega) hp
end
end T82

namespace T82
open PySem L2 D1 Rp
/-! ### what follows from a book -/
/-- the contrary line -/
def contraryF (t : Ln) : Option Ln :=
  if t.a = "off" then some ⟨"call", sortS (t.b ++ [t.c]), t.c⟩
  else if t.b.filter (fun n => !decide (n = t.c)) = [] then none else some ⟨"off", t.b.filter fun n => !decide (n = t.c), t.c⟩
/-- the lines and one more, as a book tells them -/
def moreF (ls : List Ln) (t : Ln) : List Ln := dedup (sortD (ls ++ [t]))
def impliedF (ns : List Str) (ls : List Ln) (t : Ln) : Bool := match contraryF t with
  | none => true
  | some o => !(barF ns (moreF ls o)).isNone
theorem mem_more {ls : List Ln} {t x : Ln} : x ∈ moreF ls t ↔ x ∈ ls ∨ x = t := by
  unfold moreF
  rw [mem_dedup, mem_sortD, List.mem_append, List.mem_singleton]
theorem line_parts {t : Ln} {es : List Str} (h : isLine t es = true) : (∀ z ∈ t.b, isName z = true) ∧ t.b.Nodup ∧ t.b = sortS t.b ∧ isName t.c = true := by
  unfold isLine at h
  rw [Bool.and_eq_true, Bool.and_eq_true, Bool.and_eq_true, Bool.and_eq_true] at h
  obtain ⟨_, h2, h3, _, _⟩ := h
  obtain ⟨i1, i2, i3, _, _⟩ := fieldP h2
  exact ⟨i1, i2, i3, h3⟩
theorem field_of {l es : List Str} (h1 : ∀ z ∈ l, isName z = true) (h2 : l.Nodup) (h3 : l = sortS l) (h4 : ∀ x ∈ l, x ∈ es) (h5 : l ≠ []) : isField l es = true := by
  unfold isField isLot isAscending areNames
  rw [decide_eq_true (⟨h1, h2⟩ : (∀ z ∈ l, isName z = true) ∧ l.Nodup), decide_eq_true h3, decide_eq_true h4, decide_eq_false h5]
  rfl
theorem line_of {a : Str} {b es : List Str} {c : Str} (ha : a = "call" ∨ a = "off") (h1 : ∀ z ∈ b, isName z = true) (h2 : b.Nodup) (h3 : b = sortS b) (h4 : ∀ x ∈ b, x ∈ es) (h5 : b ≠ []) (hc : isName c = true) (hm : c ∈ es) (hw : c ∈ b ↔ a = "call") : isLine ⟨a, b, c⟩ es = true := by
  unfold isLine
  rw [decide_eq_true ha, field_of h1 h2 h3 h4 h5, hc, decide_eq_true hm, decide_eq_true (decide_eq_decide.mpr hw)]
  rfl
theorem sort_sub {l ns : List Str} (hs : SortedS ns) (h : l.Sublist ns) : l = sortS l := (sortS_self (hs.sublist h)).symm
/-- the contrary of a line is a line -/
theorem contrary_ok {t o : Ln} {es : List Str} (hes : Lok es) (h : LnOk t) (hl : isLine t es = true) (e : contraryF t = some o) : LnOk o ∧ isLine o es = true := by
  obtain ⟨w1, w2, w3, w4, w5⟩ := line_word hl
  obtain ⟨p1, p2, p3, p4⟩ := line_parts hl
  unfold contraryF at e
  by_cases ho : t.a = "off"
  · rw [if_pos ho] at e
    cases e
    have nm : t.c ∉ t.b := fun hm => call_ne_off ((w5.mpr hm).symm.trans ho)
    have nd : (t.b ++ [t.c]).Nodup := List.nodup_append.mpr ⟨p2, by simp, fun a ha b hb e => by rw [List.mem_singleton.mp hb] at e; exact nm (e ▸ ha)⟩
    have hmem : ∀ x, x ∈ sortS (t.b ++ [t.c]) ↔ x ∈ t.b ∨ x = t.c := fun x => by rw [mem_sortS, List.mem_append, List.mem_singleton]
    have hsub : ∀ x ∈ sortS (t.b ++ [t.c]), x ∈ es := fun x hx => by
      rcases (hmem x).mp hx with hx | hx
      · exact w2 x hx
      · rw [hx]; exact w4
    have hl2 : (sortS (t.b ++ [t.c])).length < 64 := by
      have := sub_len (sortS_nodup nd) hsub
      have := hes.2
      omega
    refine ⟨⟨zok_call, ⟨fun z hz => ?_, hl2⟩, h.2.2⟩, line_of (.inl rfl) (fun z hz => ?_) (sortS_nodup nd) (sortS_self (sortS_sorted _)).symm hsub ?_ p4 w4 ⟨fun _ => rfl, fun _ => (hmem _).mpr (.inr rfl)⟩⟩
    · rcases (hmem z).mp hz with hz | hz
      · exact h.2.1.1 z hz
      · rw [hz]; exact h.2.2
    · rcases (hmem z).mp hz with hz | hz
      · exact p1 z hz
      · rw [hz]; exact p4
    · intro e
      have := (hmem t.c).mpr (.inr rfl)
      rw [e] at this
      cases this
  · rw [if_neg ho] at e
    split at e
    · cases e
    · rename_i hne
      cases e
      have hs : (t.b.filter fun n => !decide (n = t.c)).Sublist t.b := List.filter_sublist
      have so : SortedS t.b := by rw [p3]; exact sortS_sorted _
      refine ⟨⟨zok_off, ⟨fun z hz => h.2.1.1 z (hs.subset hz), Nat.lt_of_le_of_lt hs.length_le h.2.1.2⟩, h.2.2⟩, line_of (.inr rfl) (fun z hz => p1 z (hs.subset hz)) (p2.sublist hs) (sort_sub so hs) (fun x hx => w2 x (hs.subset hx)) hne p4 w4 ⟨fun hm => ?_, fun e => ?_⟩⟩
      · have := (List.mem_filter.mp hm).2
        simp at this
      · exact absurd e.symm call_ne_off
/-- a book and one more line -/
theorem more_good {C : Addr} {d : Bk C} {t : Ln} (h : BkG d) (ht : LnOk t) (hl : isLine t d.names = true) (few : d.told.length < 3900) : bkPre d.names (d.told ++ [t]) ∧ BkG (⟨d.names, moreF d.told t⟩ : Bk C) := by
  have hm : ∀ x ∈ d.told ++ [t], LnOk x ∧ isLine x d.names = true := fun x hx => by
    rcases List.mem_append.mp hx with hx | hx
    · exact ⟨h.ls.1 x hx, h.li x hx⟩
    · rw [List.mem_singleton.mp hx]; exact ⟨ht, hl⟩
  have hlen : (d.told ++ [t]).length < 4000 := by
    rw [List.length_append, List.length_singleton]
    omega
  have hm2 : ∀ x ∈ moreF d.told t, LnOk x ∧ isLine x d.names = true := fun x hx => hm x (by rw [List.mem_append, List.mem_singleton]; exact mem_more.mp hx)
  refine ⟨⟨h.ns, h.en, ⟨fun x hx => (hm x hx).1, hlen⟩, decide_eq_true fun x hx => (hm x hx).2⟩, h.ns, h.en, h.so, ⟨fun x hx => (hm2 x hx).1, ?_⟩, fun x hx => (hm2 x hx).2⟩
  refine Nat.lt_of_le_of_lt (dedup_length _) ?_
  rw [sortD_length]
  exact hlen
section
variable {P : Program} {w : World} {K : PySem.W.Frag} {mg : Str → Option Value} {base : Heap} {f C CP : Addr} {fd : FuncData}
theorem Ev.lstB {α : Type} [Rp α] {X : Cx} {σ : L2.St} {G : Hp} {pos : Pos} {es : List Expr} {xs : List α} (t : EL X es σ G xs) (hz : xs.length ≤ sizeLine) : Ev X (.List es pos) σ G xs := fun G1 H1 Q s1 s2 k =>
  WE.of (pe_lst (t := fun σ' H' Q' => ∀ pos pins s, Inv X pins σ' H' s → wpAny (model X.prog X.w) X.A (spliced (backTo pos (starEach es X.env))) (AP X pins σ' Q') X.xe s) ⟨fun pos pins s σ H Q I h => h pos pins s I⟩)
    (t G1 H1 _ s1 s2 fun G2 H2 vs g r => ⟨by rw [r.length]; exact hz, fun q hq => by
      have g2 := Gr.new (o := .lst vs) g.s hq
      exact k _ _ _ (g.trans g2) ⟨q, vs, rfl, upd_same, pmono r fun _ _ => rup g2.g⟩⟩)
theorem m_with_line (F : C8.Fun K "with_line" "Book.with_line" sBookWithLine f fd) (b : Binds K fd ["self", "line"] []) (me : Meth K C "with_line" f) (TB : BkT K mg C) (cL : C8.Cal P w K mg base 6 "is_line" (P2 (fun t es => LnOk t ∧ Lok es) isLine) [])
    (mB : C8.Mak P w K mg base 7 "Book" C (PI2F C bkPre (mkBk : List Str → List Ln → Bk C)) []) :
    C8.Met P w K mg base 9 C "with_line" (P2 (fun (d : Bk C) t => (BkG d ∧ LnOk t) ∧ isLine t d.names = true ∧ d.told.length < 3900) (fun d t => (⟨d.names, moreF d.told t⟩ : Bk C))) [] := by
  refine ⟨f, fd, _, [], TB.cl, me, fk2 F scBookWithLine rfl (fun cdv A outer s H E G u v d t hr r1 r2 h => ?_), b, .nil⟩
  refine Bl.ifF (ET.eq (ET.not (ET.val (Ev.call2 cL hr (Ev.v 1 rfl r2) (Ev.fld (bkN TB d) (Ev.v 0 rfl r1)) ⟨h.1.2, h.1.1.ns⟩))) (by rw [h.2.1]; rfl)) ?_
  refine Bl.rv (Ev.eq (EvF.make2 (f := (mkBk : List Str → List Ln → Bk C)) mB hr (Ev.fld (bkN TB d) (Ev.v 0 rfl r1)) (Ev.lstB (EL.star (Ev.fld (bkTo TB d) (Ev.v 0 rfl r1)) (EL.cons (Ev.v 1 rfl r2) EL.nil)) ?_) (more_good h.1.1 h.1.2 h.2.1 h.2.2).1).ev ?_)
  · have a6 : sizeLine = 16777216 := rfl
    have := h.2.2
    rw [List.length_append, List.length_singleton]
    omega
  · unfold mkBk moreF
    rw [sortS_self h.1.1.so]
theorem c_contrary_of (D : C8.Def K mg "contrary_of" sContraryOf f fd) (b : Binds K fd ["line"] []) (B : Bt mg) :
    C8.Cal P w K mg base 1 "contrary_of" (P1 (fun t : Ln => LnOk t ∧ t.b.length < 63) contraryF) [] := by
  refine fn1 D b scContraryOf rfl fun cdv A outer s H E G v t hr r h => ?_
  refine Bl.asg3 1 2 3 (Ev.v 0 rfl r) (fun G1 x y z s1 q1 q2 q3 => ?_) scContraryOf.nd
  refine Bl.ite (ET.eqD hr.units (Ev.v 1 rfl q1) Ev.str h.1.1.2 zok_off.2) (fun hh => ?_) fun hh => ?_
  · have ho : t.a = "off" := of_decide_eq_true hh
    refine Bl.rv (Ev.eq (Ev.opt (Ev.tup3 Ev.str (Ev.sortedS B (Ev.lst (EL.star (Ev.v 2 rfl q2) (EL.cons (Ev.v 3 rfl q3) EL.nil)) ?_) ?_) (Ev.v 3 rfl q3))) ?_)
    · rw [List.length_append]; have := h.2; simp; omega
    · rw [List.length_append]; have := h.2; simp; omega
    · unfold contraryF
      rw [if_pos ho]
  · have ho : ¬ t.a = "off" := of_decide_eq_false hh
    refine bl_asgSel 4 5 (t := fun n => !decide (n = t.c)) (EI.list (Ev.v 2 rfl q2)) (fun n hn G' v' s' r' s H C2 cl fp => ET.neD hr.units (Ev.v 5 rfl r') (Ev.v 3 rfl (rup s' q3)) (h.1.2.1.1 n hn).2 h.1.2.2.2) (sz64 h.1.2.1.2) scContraryOf.nd (blkOk_by (N := nContraryOf) (sc := C8.fnScope sContraryOf) (by decide +kernel)) (fun G2 ov s2 ro => ?_)
    refine Bl.rv (Ev.eq (Ev.ite (z := contraryF t) (z' := contraryF t) (ET.neD hr.units (Ev.v 4 rfl ro) Ev.nil (fun a ha => (h.1.2.1.1 a (List.mem_filter.mp ha).1).2) lay_nil) (fun hh => ?_) fun hh => ?_) (by split <;> rfl))
    · have hne : ¬ t.b.filter (fun n => !decide (n = t.c)) = [] := by simpa using hh
      refine Ev.eq (Ev.opt (Ev.tup3 Ev.str (Ev.v 4 rfl ro) (Ev.v 3 rfl (rup s2 q3)))) ?_
      unfold contraryF
      rw [if_neg ho, if_neg hne]
    · have hne : t.b.filter (fun n => !decide (n = t.c)) = [] := by simpa using hh
      refine Ev.eq Ev.nonO ?_
      unfold contraryF
      rw [if_neg ho, if_pos hne]
theorem c_check_line (D : C8.Def K mg "check_line" sCheckLine f fd) (b : Binds K fd ["book", "line"] []) (TB : BkT K mg C) (cK : C8.Cal P w K mg base 1 "check_book" (P1 (fun _ : Bk C => True) (fun _ => ())) []) (cL : C8.Cal P w K mg base 6 "is_line" (P2 (fun t es => LnOk t ∧ Lok es) isLine) []) :
    C8.Cal P w K mg base 7 "check_line" (P2 (fun (d : Bk C) t => (BkG d ∧ LnOk t) ∧ isLine t d.names = true) (fun _ _ => ())) [] := by
  refine fn2 D b scCheckLine rfl fun cdv A outer s H E G u v d t hr r1 r2 h => ?_
  refine Bl.expr (Ev.call1 cK hr (Ev.v 0 rfl r1) trivial) (Bl.ifF (ET.eq (ET.not (ET.val (Ev.call2 cL hr (Ev.v 1 rfl r2) (Ev.fld (bkN TB d) (Ev.v 0 rfl r1)) ⟨h.1.2, h.1.1.ns⟩))) (by rw [h.2]; rfl)) (Bl.nil fun _ _ => rfl))
/-- a book and a line that may be asked -/
def AskOk {C : Addr} (d : Bk C) (t : Ln) : Prop := (BkG d ∧ LnOk t) ∧ isLine t d.names = true ∧ d.told.length < 3900 ∧ d.names.length < 63
theorem c_is_implied (D : C8.Def K mg "is_implied" sIsImplied f fd) (b : Binds K fd ["book", "line"] []) (TB : BkT K mg C) (cO : C8.Cal P w K mg base 1 "contrary_of" (P1 (fun t : Ln => LnOk t ∧ t.b.length < 63) contraryF) []) (cB : C8.Cal P w K mg base 2 "bar_of" (P1 (fun d : Bk C => BkOk d) (fun d => barF d.names d.told)) [])
    (cW : C8.Met P w K mg base 9 C "with_line" (P2 (fun (d : Bk C) t => (BkG d ∧ LnOk t) ∧ isLine t d.names = true ∧ d.told.length < 3900) (fun d t => (⟨d.names, moreF d.told t⟩ : Bk C))) []) :
    C8.Cal P w K mg base 10 "is_implied" (P2 (AskOk (C := C)) (fun d t => impliedF d.names d.told t)) [] := by
  refine fn2 D b scIsImplied rfl fun cdv A outer s H E G u v d t hr r1 r2 ⟨⟨h1, h2⟩, h3, h4, h5⟩ => ?_
  have hb : t.b.length < 63 := by
    have := sub_len (line_parts h3).2.1 (line_word h3).2.1
    omega
  refine Bl.asg 2 (Ev.call1 (f := contraryF) cO hr (Ev.v 1 rfl r2) ⟨h2, hb⟩) (fun G1 ov s1 ro => ?_) scIsImplied.nd
  cases e : contraryF t with
  | none =>
    rw [e] at ro
    refine Bl.rv (Ev.eq (Ev.or (y := true) (z := true) (Ev.isN (o := (none : Option Ln)) (Ev.v 2 rfl ro)) fun hh => (by cases hh)) ?_)
    unfold impliedF
    rw [e]
    rfl
  | some o =>
    rw [e] at ro
    obtain ⟨k1, k2⟩ := contrary_ok h1.ns h2 h3 e
    have ro' : rp G1 ov o := ro
    refine Bl.rv (Ev.eq (Ev.or (y := false) (z := !(barF d.names (moreF d.told o)).isNone) (Ev.isN (o := some o) (Ev.v 2 rfl ro)) fun _ => Ev.one (Ev.notN (Ev.call1 (f := fun d : Bk C => barF d.names d.told) (a := (⟨d.names, moreF d.told o⟩ : Bk C)) cB hr (Ev.meth1 (f := fun (d : Bk C) t => (⟨d.names, moreF d.told t⟩ : Bk C)) cW hr (bkM d (by decide) (by decide)) (Ev.v 0 rfl (rup s1 r1)) (Ev.v 2 rfl ro') ⟨⟨h1, k1⟩, k2, h4⟩) (more_good h1 k1 k2 h4).2.ok))) ?_)
    unfold impliedF
    rw [e]
    rfl
theorem c_follows (D : C8.Def K mg "follows" sFollows f fd) (b : Binds K fd ["book", "line"] []) (cK : C8.Cal P w K mg base 7 "check_line" (P2 (fun (d : Bk C) t => (BkG d ∧ LnOk t) ∧ isLine t d.names = true) (fun _ _ => ())) []) (cI : C8.Cal P w K mg base 10 "is_implied" (P2 (AskOk (C := C)) (fun d t => impliedF d.names d.told t)) []) :
    C8.Cal P w K mg base 11 "follows" (P2 (AskOk (C := C)) (fun d t => impliedF d.names d.told t)) [] := by
  refine fn2 D b scFollows rfl fun cdv A outer s H E G u v d t hr r1 r2 h => ?_
  exact Bl.expr (Ev.call2 cK hr (Ev.v 0 rfl r1) (Ev.v 1 rfl r2) ⟨h.1, h.2.1⟩) (Bl.rv (Ev.call2 (f := fun (d : Bk C) t => impliedF d.names d.told t) cI hr (Ev.v 0 rfl r1) (Ev.v 1 rfl r2) h))
end
end T82

namespace T82
open PySem L2 D1 Rp
/-! ### what is sure: the plain law -/
abbrev toldL (rs : List Rd) : List Ln := dedup (sortD (rdLines rs))
theorem mem_toldL {rs : List Rd} {t : Ln} : t ∈ toldL rs ↔ t ∈ rdLines rs := by rw [mem_dedup, mem_sortD]
abbrev others (f : List Str) (n : Str) : List Str := f.filter fun x => !decide (x = n)
def wordF (ns : List Str) (ls : List Ln) (f : List Str) (n : Str) : Str := if impliedF ns ls ⟨"call", f, n⟩ = true then "card" else if impliedF ns ls ⟨"off", others f n, n⟩ = true then "none" else "open"
def lawFollows (ns : List Str) (ls : List Ln) (t : Ln) : Bool := match contraryF t with
  | none => true
  | some o => (lawSome ns (ls ++ [o])).isNone
theorem implied_law {ns : List Str} {ls ls' : List Ln} {t : Ln} (hn : ns.Nodup) (h : ∀ x, x ∈ ls ↔ x ∈ ls') : impliedF ns ls t = lawFollows ns ls' t := by
  unfold impliedF lawFollows
  cases contraryF t with
  | none => rfl
  | some o =>
    have e1 := bar_none (ls := moreF ls o) hn
    have e2 := law_some (ls := ls' ++ [o]) hn
    have e3 : Kept ns (moreF ls o) ↔ Kept ns (ls' ++ [o]) := kept_congr fun x => by rw [mem_more, List.mem_append, List.mem_singleton, h x]
    show (!(barF ns (moreF ls o)).isNone) = (lawSome ns (ls' ++ [o])).isNone
    cases hb : barF ns (moreF ls o) with
    | none =>
      have k := e2.mpr (e3.mp (e1.mp hb))
      cases hl : lawSome ns (ls' ++ [o]) with
      | none => exact absurd hl k
      | some _ => rfl
    | some _ =>
      cases hl : lawSome ns (ls' ++ [o]) with
      | none => rfl
      | some x =>
        have k := e1.mpr (e3.mpr (e2.mp (by rw [hl]; exact fun z => nomatch z)))
        rw [hb] at k
        cases k
theorem implied_kept {ns : List Str} {ls : List Ln} {t o : Ln} (hn : ns.Nodup) (e : contraryF t = some o) : impliedF ns ls t = true ↔ ¬ Kept ns (moreF ls o) := by
  unfold impliedF
  rw [e, ← bar_none hn]
  show (!(barF ns (moreF ls o)).isNone) = true ↔ _
  cases barF ns (moreF ls o) with
  | none => exact ⟨fun h => (by cases h), fun h => absurd rfl h⟩
  | some x => exact ⟨fun _ h => (by cases h), fun _ => rfl⟩
/-- rows that fit the rounds -/
def Fits (ns : List Str) (rs : List Rd) (rows : List (List Str)) : Prop := rows ≠ [] ∧ (∀ r ∈ rows, r.Perm ns) ∧ ∀ r ∈ rs, cardsF rows r.1 = r.2
theorem rowsF_ne (ns : List Str) (ls : List Ln) : rowsF ns ls ≠ [] := by
  unfold rowsF
  split
  · exact fun e => nomatch e
  · rename_i h; exact h
theorem keeps_more {ls : List Ln} {o : Ln} {rows : List (List Str)} : keepsF (moreF ls o) rows = (keepsF ls rows && lineKept o rows) := by
  rw [keeps_congr (ls' := ls ++ [o]) fun t => by rw [mem_more, List.mem_append, List.mem_singleton]]
  unfold keepsF
  rw [List.all_append]
  simp
theorem kept_more {ns : List Str} {rs : List Rd} {o : Ln} (hn : Nm8 ns) (rok : RdsOk ns rs) (ho : isLine o ns = true) : Kept ns (moreF (toldL rs) o) ↔ ∃ rows, Fits ns rs rows ∧ lineKept o rows = true := by
  have hl : ∀ t ∈ moreF (toldL rs) o, isLine t ns = true := fun t ht => by
    rcases mem_more.mp ht with h | h
    · exact rd_isLine rok (mem_toldL.mp h)
    · rw [h]; exact ho
  have hk : ∀ rows, (∀ r ∈ rows, r.Perm ns) → keepsF (toldL rs) rows = decide (∀ r ∈ rs, cardsF rows r.1 = r.2) := fun rows hr => by
    rw [keeps_congr (ls' := rdLines rs) fun t => mem_toldL]
    exact fit_keeps (fun r hr' => rok.rd r hr') hr
  constructor
  · intro k
    obtain ⟨h1, h2⟩ := kept_rows hn.nodup hl k
    rw [keeps_more, Bool.and_eq_true, hk _ h1] at h2
    exact ⟨_, ⟨rowsF_ne _ _, h1, of_decide_eq_true h2.1⟩, h2.2⟩
  · rintro ⟨rows, ⟨h1, h2, h3⟩, h4⟩
    refine rows_kept hl h2 h1 ?_
    rw [keeps_more, hk _ h2, decide_eq_true h3, h4]
    rfl
theorem first_congr {r f g : List Str} (h : ∀ x, x ∈ f ↔ x ∈ g) : firstIn r f = firstIn r g := by
  unfold firstIn
  have : (fun n => decide (n ∈ f)) = fun n => decide (n ∈ g) := funext fun n => decide_eq_decide.mpr (h n)
  rw [this]
theorem others_mem {f : List Str} {n x : Str} (hn : n ∈ f) : x ∈ others f n ++ [n] ↔ x ∈ f := by
  rw [List.mem_append, List.mem_filter, List.mem_singleton]
  constructor
  · rintro (⟨h, _⟩ | h)
    · exact h
    · rw [h]; exact hn
  · intro h
    by_cases e : x = n
    · exact .inr e
    · exact .inl ⟨h, by simp [e]⟩
theorem kept_off {f : List Str} {n : Str} {rows : List (List Str)} (hn : n ∈ f) : lineKept ⟨"off", others f n, n⟩ rows = true ↔ n ∉ cardsF rows f := by
  unfold lineKept
  rw [if_neg (show ¬ ("off" : Str) = "call" from fun e => call_ne_off e.symm), Bool.not_eq_true', ← Bool.not_eq_true, List.any_eq_true, mem_cards]
  refine not_congr (exists_congr fun r => and_congr_right fun _ => ?_)
  show decide (firstIn r (others f n ++ [n]) = some n) = true ↔ _
  rw [decide_eq_true_eq, first_congr (fun x => others_mem hn)]
theorem kept_call {f : List Str} {n : Str} {rows : List (List Str)} (hn : n ∈ f) : lineKept ⟨"call", sortS (others f n ++ [n]), n⟩ rows = true ↔ n ∈ cardsF rows f := by
  unfold lineKept
  rw [if_pos rfl, List.any_eq_true, mem_cards]
  refine exists_congr fun r => and_congr_right fun _ => ?_
  show decide (firstIn r (sortS (others f n ++ [n])) = some n) = true ↔ _
  rw [decide_eq_true_eq, first_congr (g := f) (fun x => mem_sortS.trans (others_mem hn))]
theorem call_line {ns f : List Str} {n : Str} (hn : Nm8 ns) (hf : Part f ns) (h : n ∈ f) : LnOk (⟨"call", f, n⟩ : Ln) ∧ isLine ⟨"call", f, n⟩ ns = true := by
  have hs := hf.sub hn
  exact ⟨⟨zok_call, hs.lok, hs.lok.1 n h⟩, line_of (.inl rfl) hs.names hs.nodup (sortS_self hs.sorted).symm hf.1 hf.2.2.2 (hs.names n h) (hf.1 n h) ⟨fun _ => rfl, fun _ => h⟩⟩
theorem off_line {ns f : List Str} {n : Str} (hn : Nm8 ns) (hf : Part f ns) (h : n ∈ f) (ho : others f n ≠ []) : LnOk (⟨"off", others f n, n⟩ : Ln) ∧ isLine ⟨"off", others f n, n⟩ ns = true := by
  have hs := hf.sub hn
  have sb : (others f n).Sublist f := List.filter_sublist
  have hl : Lok (others f n) := ⟨fun z hz => hs.lok.1 z (sb.subset hz), Nat.lt_of_le_of_lt sb.length_le hs.lok.2⟩
  refine ⟨⟨zok_off, hl, hs.lok.1 n h⟩, line_of (.inr rfl) (fun z hz => hs.names z (sb.subset hz)) (hs.nodup.sublist sb) (sort_sub hs.sorted sb) (fun x hx => hf.1 x (sb.subset hx)) ho (hs.names n h) (hf.1 n h) ⟨fun hm => ?_, fun e => absurd e.symm call_ne_off⟩⟩
  have := (List.mem_filter.mp hm).2
  simp at this
theorem implied_call {ns f : List Str} {rs : List Rd} {n : Str} (hn : Nm8 ns) (rok : RdsOk ns rs) (hf : Part f ns) (h : n ∈ f) : impliedF ns (toldL rs) ⟨"call", f, n⟩ = true ↔ ∀ rows, Fits ns rs rows → n ∈ cardsF rows f := by
  by_cases ho : others f n = []
  · have e : contraryF ⟨"call", f, n⟩ = none := by
      unfold contraryF
      rw [if_neg call_ne_off, if_pos ho]
    refine ⟨fun _ rows hr => ?_, fun _ => by unfold impliedF; rw [e]⟩
    obtain ⟨h1, h2, _⟩ := hr
    obtain ⟨r, hr'⟩ := List.exists_mem_of_ne_nil _ h1
    obtain ⟨x, hx, hxf⟩ := first_some (h2 r hr') hf.1 hf.2.2.2
    have e2 : x = n := by
      have := (others_mem (x := x) h).mpr hxf
      rw [ho, List.nil_append] at this
      exact List.mem_singleton.mp this
    exact mem_cards.mpr ⟨r, hr', by rw [← e2]; exact hx⟩
  · have e : contraryF ⟨"call", f, n⟩ = some ⟨"off", others f n, n⟩ := by
      unfold contraryF
      rw [if_neg call_ne_off, if_neg ho]
    rw [implied_kept hn.nodup e, kept_more hn rok (off_line hn hf h ho).2]
    constructor
    · intro hk rows hr
      refine Decidable.byContradiction fun hc => hk ⟨rows, hr, (kept_off h).mpr hc⟩
    · rintro hk ⟨rows, hr, hl⟩
      exact (kept_off h).mp hl (hk rows hr)
theorem implied_off {ns f : List Str} {rs : List Rd} {n : Str} (hn : Nm8 ns) (rok : RdsOk ns rs) (hf : Part f ns) (h : n ∈ f) (ho : others f n ≠ []) : impliedF ns (toldL rs) ⟨"off", others f n, n⟩ = true ↔ ∀ rows, Fits ns rs rows → n ∉ cardsF rows f := by
  have e : contraryF ⟨"off", others f n, n⟩ = some ⟨"call", sortS (others f n ++ [n]), n⟩ := by
    unfold contraryF
    rw [if_pos rfl]
  have hl := (contrary_ok hn.lok (off_line hn hf h ho).1 (off_line hn hf h ho).2 e).2
  rw [implied_kept hn.nodup e, kept_more hn rok hl]
  constructor
  · intro hk rows hr hc
    exact hk ⟨rows, hr, (kept_call h).mpr hc⟩
  · rintro hk ⟨rows, hr, hc⟩
    exact hk rows hr ((kept_call h).mp hc)
theorem fits_some {ns : List Str} {rs : List Rd} (hn : Nm8 ns) (rok : RdsOk ns rs) (k : KeptR ns rs) : ∃ rows, Fits ns rs rows := by
  obtain ⟨h1, h2⟩ := told_fits rok k
  exact ⟨_, rowsF_ne _ _, h1, h2⟩
theorem cn1 : ¬ ("card" : Str) = "none" := by decide +kernel
theorem cn2 : ¬ ("card" : Str) = "open" := by decide +kernel
theorem cn3 : ¬ ("none" : Str) = "open" := by decide +kernel
/-- the three words, by all rows that fit -/
theorem word_is {ns f : List Str} {rs : List Rd} {n : Str} (hn : Nm8 ns) (rok : RdsOk ns rs) (k : KeptR ns rs) (hf : Part f ns) (h : n ∈ f) :
    (wordF ns (toldL rs) f n = "card" ∧ ∀ rows, Fits ns rs rows → n ∈ cardsF rows f) ∨ (wordF ns (toldL rs) f n = "none" ∧ ∀ rows, Fits ns rs rows → n ∉ cardsF rows f) ∨
    (wordF ns (toldL rs) f n = "open" ∧ (∃ rows, Fits ns rs rows ∧ n ∈ cardsF rows f) ∧ ∃ rows, Fits ns rs rows ∧ n ∉ cardsF rows f) := by
  unfold wordF
  by_cases h1 : impliedF ns (toldL rs) ⟨"call", f, n⟩ = true
  · rw [if_pos h1]
    exact .inl ⟨rfl, (implied_call hn rok hf h).mp h1⟩
  · rw [if_neg h1]
    have ho : others f n ≠ [] := fun e => h1 (by
      unfold impliedF contraryF
      rw [if_neg call_ne_off, if_pos e])
    rw [implied_call hn rok hf h] at h1
    by_cases h2 : impliedF ns (toldL rs) ⟨"off", others f n, n⟩ = true
    · rw [if_pos h2]
      exact .inr (.inl ⟨rfl, (implied_off hn rok hf h ho).mp h2⟩)
    · rw [if_neg h2]
      rw [implied_off hn rok hf h ho] at h2
      refine .inr (.inr ⟨rfl, ?_, ?_⟩)
      · refine Classical.byContradiction fun hc => h2 fun rows hr hm => hc ⟨rows, hr, hm⟩
      · refine Classical.byContradiction fun hc => h1 fun rows hr => Classical.byContradiction fun hm => hc ⟨rows, hr, hm⟩
/-! ### all panels -/
def subsF {α : Type} (l : List α) : List (List α) := l.foldl (fun f x => f ++ f.map fun s => s ++ [x]) [[]]
theorem subs_snoc {α : Type} (l : List α) (x : α) : subsF (l ++ [x]) = subsF l ++ (subsF l).map fun s => s ++ [x] := by
  unfold subsF
  rw [List.foldl_append]
  rfl
theorem snoc_ind {α : Type} {P : List α → Prop} (h0 : P []) (h1 : ∀ l x, P l → P (l ++ [x])) (l : List α) : P l := by
  have key : ∀ m : List α, P m.reverse := fun m => by
    induction m with
    | nil => exact h0
    | cons x m ih => rw [List.reverse_cons]; exact h1 _ _ ih
  have := key l.reverse
  rwa [List.reverse_reverse] at this
theorem subs_head {α : Type} (l : List α) : ∃ t, subsF l = [] :: t ∧ ∀ s ∈ t, s ≠ [] := by
  induction l using snoc_ind with
  | h0 => exact ⟨[], rfl, fun s hs => by cases hs⟩
  | h1 l x ih =>
    obtain ⟨t, e, h⟩ := ih
    rw [subs_snoc, e]
    refine ⟨t ++ ([] :: t).map (fun s => s ++ [x]), rfl, fun s hs => ?_⟩
    rcases List.mem_append.mp hs with h' | h'
    · exact h s h'
    · obtain ⟨s', _, rfl⟩ := List.mem_map.mp h'
      exact fun e => by simp at e
theorem subs_sub {α : Type} (l : List α) : ∀ s ∈ subsF l, s.Sublist l := by
  induction l using snoc_ind with
  | h0 => intro s hs; rw [List.mem_singleton.mp hs]; exact List.Sublist.refl _
  | h1 l x ih =>
    intro s hs
    rw [subs_snoc] at hs
    rcases List.mem_append.mp hs with h | h
    · exact (ih s h).trans (List.sublist_append_left _ _)
    · obtain ⟨s', h', rfl⟩ := List.mem_map.mp h
      exact (ih s' h').append (List.Sublist.refl _)
theorem subs_filter {α : Type} (p : α → Bool) (l : List α) : l.filter p ∈ subsF l := by
  induction l using snoc_ind with
  | h0 => exact List.mem_singleton.mpr rfl
  | h1 l x ih =>
    rw [subs_snoc, List.filter_append]
    by_cases h : p x = true
    · rw [List.filter_cons_of_pos h, List.filter_nil]
      exact List.mem_append_right _ (List.mem_map.mpr ⟨_, ih, rfl⟩)
    · rw [List.filter_cons_of_neg h, List.filter_nil, List.append_nil]
      exact List.mem_append_left _ ih
def rowsStep (ns : List Str) (f : List (List Str)) : List (List Str) := f.flatMap fun row => (ns.filter fun n => !decide (n ∈ row)).map fun n => row ++ [n]
def rowsUp (ns : List Str) : Nat → List (List Str)
  | 0 => [[]]
  | k + 1 => rowsStep ns (rowsUp ns k)
def allRowsF (ns : List Str) : List (List Str) := rowsUp ns ns.length
theorem mem_rowsUp {ns : List Str} : ∀ (k : Nat) (r : List Str), r ∈ rowsUp ns k ↔ r.length = k ∧ r.Nodup ∧ ∀ x ∈ r, x ∈ ns
  | 0, r => by
    show r ∈ [[]] ↔ _
    rw [List.mem_singleton]
    constructor
    · intro e; subst e; exact ⟨rfl, List.nodup_nil, fun x hx => by cases hx⟩
    · rintro ⟨h, _⟩; exact List.length_eq_zero_iff.mp h
  | k + 1, r => by
    show r ∈ rowsStep ns (rowsUp ns k) ↔ _
    unfold rowsStep
    rw [List.mem_flatMap]
    constructor
    · rintro ⟨row, hr, hm⟩
      obtain ⟨n, hn, rfl⟩ := List.mem_map.mp hm
      obtain ⟨h1, h2⟩ := List.mem_filter.mp hn
      obtain ⟨i1, i2, i3⟩ := (mem_rowsUp k row).mp hr
      have hnr : n ∉ row := by simpa using h2
      refine ⟨by rw [List.length_append, i1]; rfl, List.nodup_append.mpr ⟨i2, by simp, fun a ha b hb e => ?_⟩, fun x hx => ?_⟩
      · rw [List.mem_singleton.mp hb] at e
        exact hnr (e ▸ ha)
      · rcases List.mem_append.mp hx with h | h
        · exact i3 x h
        · rw [List.mem_singleton.mp h]; exact h1
    · rintro ⟨h1, h2, h3⟩
      have hne : r ≠ [] := fun e => by rw [e] at h1; cases h1
      have e := List.dropLast_concat_getLast hne
      refine ⟨r.dropLast, (mem_rowsUp k _).mpr ⟨by rw [List.length_dropLast, h1]; rfl, h2.sublist (List.dropLast_sublist _), fun x hx => h3 x (List.dropLast_subset _ hx)⟩, List.mem_map.mpr ⟨r.getLast hne, List.mem_filter.mpr ⟨h3 _ (List.getLast_mem hne), ?_⟩, e⟩⟩
      rw [← e] at h2
      have := (List.nodup_append.mp h2).2.2
      simp only [Bool.not_eq_true', decide_eq_false_iff_not]
      exact fun hm => this _ hm _ (List.mem_singleton.mpr rfl) rfl
theorem mem_allRows {ns r : List Str} (hn : ns.Nodup) : r ∈ allRowsF ns ↔ r.Perm ns := by
  unfold allRowsF
  rw [mem_rowsUp]
  constructor
  · rintro ⟨h1, h2, h3⟩
    exact perm_sub2 h2 h3 (by omega)
  · intro h
    exact ⟨h.length_eq, h.nodup_iff.mpr hn, fun x hx => h.mem_iff.mp hx⟩
def allPanelsF (ns : List Str) : List (List (List Str)) := (subsF (allRowsF ns)).drop 1
theorem drop1_subs {α : Type} {l s : List α} : s ∈ (subsF l).drop 1 ↔ s ∈ subsF l ∧ s ≠ [] := by
  obtain ⟨t, e, h⟩ := subs_head l
  rw [e]
  constructor
  · intro hs
    exact ⟨List.mem_cons_of_mem _ hs, h s hs⟩
  · rintro ⟨hs, hne⟩
    rcases List.mem_cons.mp hs with h' | h'
    · exact absurd h' hne
    · exact h'
def fitF (ns : List Str) (rs : List Rd) : List (List (List Str)) := (allPanelsF ns).filter fun rows => rs.all fun r => decide (cardsF rows r.1 = r.2)
theorem mem_fit {ns : List Str} {rs : List Rd} {rows : List (List Str)} (hn : Nm8 ns) (h : rows ∈ fitF ns rs) : Fits ns rs rows := by
  obtain ⟨h1, h2⟩ := List.mem_filter.mp h
  obtain ⟨h3, h4⟩ := drop1_subs.mp h1
  exact ⟨h4, fun r hr => (mem_allRows hn.nodup).mp ((subs_sub _ _ h3).subset hr), fun r hr => of_decide_eq_true (List.all_eq_true.mp h2 r hr)⟩
theorem cards_same {rows rows' : List (List Str)} (h : ∀ r, r ∈ rows ↔ r ∈ rows') (f : List Str) : cardsF rows f = cardsF rows' f :=
  sorted_same (cards_nodup _ _) (cards_nodup _ _) (cards_sorted _ _) (cards_sorted _ _) fun x => by
    rw [mem_cards, mem_cards]
    exact exists_congr fun r => and_congr_left fun _ => h r
theorem fit_found {ns : List Str} {rs : List Rd} {rows : List (List Str)} (hn : Nm8 ns) (h : Fits ns rs rows) : ∃ rows' ∈ fitF ns rs, ∀ f, cardsF rows' f = cardsF rows f := by
  obtain ⟨h1, h2, h3⟩ := h
  have hm : ∀ r, r ∈ (allRowsF ns).filter (fun r => decide (r ∈ rows)) ↔ r ∈ rows := fun r => by
    rw [List.mem_filter, mem_allRows hn.nodup, decide_eq_true_eq]
    exact ⟨fun h => h.2, fun h => ⟨h2 r h, h⟩⟩
  refine ⟨_, List.mem_filter.mpr ⟨drop1_subs.mpr ⟨subs_filter (fun r => decide (r ∈ rows)) _, fun e => ?_⟩, List.all_eq_true.mpr fun r hr => decide_eq_true ?_⟩, fun f => cards_same hm f⟩
  · obtain ⟨r, hr⟩ := List.exists_mem_of_ne_nil _ h1
    have := (hm r).mpr hr
    rw [e] at this
    cases this
  · rw [cards_same hm]; exact h3 r hr
def allSome (ns : List Str) (rs : List Rd) (f : List Str) (n : Str) : List Bool := (fitF ns rs).map fun rows => decide (n ∈ cardsF rows f)
def allWord (ns : List Str) (rs : List Rd) (f : List Str) (n : Str) : Str := if (!decide (false ∈ allSome ns rs f n)) = true then "card" else if decide (true ∈ allSome ns rs f n) = true then "open" else "none"
theorem by_all {ns f : List Str} {rs : List Rd} {n : Str} (hn : Nm8 ns) (rok : RdsOk ns rs) (k : KeptR ns rs) (hf : Part f ns) (h : n ∈ f) : allWord ns rs f n = wordF ns (toldL rs) f n := by
  have hF : false ∈ allSome ns rs f n ↔ ∃ rows, Fits ns rs rows ∧ n ∉ cardsF rows f := by
    unfold allSome
    rw [List.mem_map]
    constructor
    · rintro ⟨rows, hr, e⟩; exact ⟨rows, mem_fit hn hr, of_decide_eq_false e⟩
    · rintro ⟨rows, hr, e⟩
      obtain ⟨rows', h1, h2⟩ := fit_found hn hr
      exact ⟨rows', h1, by rw [h2]; exact decide_eq_false e⟩
  have hT : true ∈ allSome ns rs f n ↔ ∃ rows, Fits ns rs rows ∧ n ∈ cardsF rows f := by
    unfold allSome
    rw [List.mem_map]
    constructor
    · rintro ⟨rows, hr, e⟩; exact ⟨rows, mem_fit hn hr, of_decide_eq_true e⟩
    · rintro ⟨rows, hr, e⟩
      obtain ⟨rows', h1, h2⟩ := fit_found hn hr
      exact ⟨rows', h1, by rw [h2]; exact decide_eq_true e⟩
  unfold allWord
  obtain ⟨rows0, hr0⟩ := fits_some hn rok k
  rcases word_is hn rok k hf h with ⟨e, hw⟩ | ⟨e, hw⟩ | ⟨e, hw1, hw2⟩
  · rw [e, decide_eq_false fun hc => by obtain ⟨rows, hr, hm⟩ := hF.mp hc; exact hm (hw rows hr)]; rfl
  · rw [e, decide_eq_true (hF.mpr ⟨rows0, hr0, hw rows0 hr0⟩), decide_eq_false fun hc => by obtain ⟨rows, hr, hm⟩ := hT.mp hc; exact hw rows hr hm]; rfl
  · rw [e, decide_eq_true (hF.mpr hw2), decide_eq_true (hT.mpr hw1)]; rfl
end T82

namespace T82
open PySem L2 D1 Rp
/-! ### what is sure: what the program does -/
theorem sort_perm {m ns : List Str} (hn : Nm8 ns) (h : m.Perm ns) : sortS m = ns := (sortS_congr h).trans (sortS_self hn.sorted)
theorem RdsOk.perm {m ns : List Str} {rs : List Rd} (h : RdsOk ns rs) (p : m.Perm ns) : RdsOk m rs := by
  have hm : ∀ x, x ∈ ns ↔ x ∈ m := fun x => p.mem_iff.symm
  have hf : ∀ f : List Str, isField f ns = true → isField f m = true := fun f hf => isField_congr hm hf
  refine ⟨⟨fun z hz => h.nm.1 z (p.mem_iff.mp hz), by rw [p.length_eq]; exact h.nm.2⟩, ?_, h.lok, fun r hr => ?_, h.few⟩
  · obtain ⟨e1, e2, e3⟩ := entP h.en
    unfold areEntries areNames
    rw [decide_eq_true (⟨fun z hz => e1 z (p.mem_iff.mp hz), p.nodup_iff.mpr e2⟩ : (∀ z ∈ m, isName z = true) ∧ m.Nodup), decide_eq_false fun e => e3 (by
      have := p.length_eq
      rw [e] at this
      exact List.eq_nil_of_length_eq_zero this.symm)]
    rfl
  · obtain ⟨f1, f2⟩ := roundP (h.rd r hr)
    unfold isRoundP
    rw [hf _ f1, f2]; rfl
/-- entries in any order, and rounds -/
def VerOk (ns es : List Str) (rs : List Rd) : Prop := Nm8 ns ∧ es.Perm ns ∧ RdsOk ns rs
def verdF (ns : List Str) (rs : List Rd) (f : List Str) : DctS Str := ⟨f.map fun n => (n, wordF ns (toldL rs) f n)⟩
def WordOk {C : Addr} (d : Bk C) (f : List Str) (n : Str) : Prop := (BkG d ∧ d.told.length < 3900) ∧ Nm8 d.names ∧ Part f d.names ∧ n ∈ f
theorem told_few {es : List Str} {rs : List Rd} (h : RdsOk es rs) : (toldL rs).length < 3900 := by
  refine Nat.lt_of_le_of_lt (dedup_length _) ?_
  rw [sortD_length]
  have := rdLines_len h.lok h.rd
  have := h.few
  omega
theorem VerOk.book {C : Addr} {ns es : List Str} {rs : List Rd} (h : VerOk ns es rs) : rdBook C es rs = ⟨ns, toldL rs⟩ := by
  unfold rdBook mkBk
  rw [sort_perm h.1 h.2.1]
theorem VerOk.some {C CP : Addr} {ns es : List Str} {rs : List Rd} (h : VerOk ns es rs) : (somePan CP (rdBook C es rs).names (rdBook C es rs).told).isNone = true ↔ ¬ KeptR ns rs := by
  have k := keptB (C := C) (es := ns) (rs := rs) h.1.nodup
  rw [h.book]
  have e : rdBook C ns rs = ⟨ns, toldL rs⟩ := (show VerOk ns ns rs from ⟨h.1, List.Perm.refl _, h.2.2⟩).book
  rw [e] at k
  rw [← k]
  unfold somePan
  show Option.isNone (if barF ns (toldL rs) = none then _ else _) = true ↔ _
  by_cases hb : barF ns (toldL rs) = none
  · rw [if_pos hb]
    exact ⟨fun z => (by cases z), fun z => absurd hb z⟩
  · rw [if_neg hb]
    exact ⟨fun _ => hb, fun _ => rfl⟩
/-- the book of rounds that some panel fits, or Clash -/
def PFit (C CC : Addr) : Sp := fun vs H Q E => ∃ G u v ns es rs, vs = [u, v] ∧ Same G H ∧ rp G u es ∧ rp G v rs ∧ VerOk ns es rs ∧ (KeptR ns rs → ∀ G' H' w, Gr G H G' H' → rp G' w (⟨ns, toldL rs⟩ : Bk C) → Q w H') ∧
  (¬ KeptR ns rs → ∀ G' H' dx, Gr G H G' H' → H dx = none → G' dx = none → H' dx = some (xdV v) → E (.ref CC) (some dx) H')
def PVer (CC : Addr) : Sp := fun vs H Q E => ∃ G u v z ns es rs, vs = [u, v, z] ∧ Same G H ∧ rp G u es ∧ rp G v rs ∧ VerOk ns es rs ∧ (KeptR ns rs → ∃ f, rp G z f ∧ Part f ns ∧ ∀ G' H' w, Gr G H G' H' → rp (dif G' H) w (verdF ns rs f) → Q w H') ∧
  (¬ KeptR ns rs → ∀ G' H' dx, Gr G H G' H' → H dx = none → G' dx = none → H' dx = some (xdV v) → E (.ref CC) (some dx) H')
section
variable {P : Program} {w : World} {K : PySem.W.Frag} {mg : Str → Option Value} {base : Heap} {f C CP CC : Addr} {fd : FuncData}
theorem c_others_of (D : C8.Def K mg "others_of" sOthersOf f fd) (b : Binds K fd ["field", "entry"] []) :
    C8.Cal P w K mg base 1 "others_of" (P2 (fun l n => Lok l ∧ Zok n) others) [] := by
  refine fn2 D b scOthersOf rfl fun cdv A outer s H E G u v l n hr r1 r2 h => ?_
  exact Bl.rv (Ev.lcSel 2 (t := fun x => !decide (x = n)) (EI.list (Ev.v 0 rfl r1)) (fun x hx G' v' s1 r' s H C cl fp => ET.neD hr.units (Ev.v 2 rfl r') (Ev.v 1 rfl (rup s1 r2)) (h.1.1 x hx).2 h.2.2) (sz64 h.1.2) scOthersOf.nd (blkOk_by (N := nOthersOf) (sc := C8.fnScope sOthersOf) (by decide +kernel)))
theorem c_word_of (D : C8.Def K mg "word_of" sWordOf f fd) (b : Binds K fd ["book", "field", "entry"] []) (B : Bt mg) (cF : C8.Cal P w K mg base 11 "follows" (P2 (AskOk (C := C)) (fun d t => impliedF d.names d.told t)) []) (cO : C8.Cal P w K mg base 1 "others_of" (P2 (fun l n => Lok l ∧ Zok n) others) []) :
    C8.Cal P w K mg base 12 "word_of" (P3 (WordOk (C := C)) (fun d f n => wordF d.names d.told f n)) [] := by
  refine fn3 D b scWordOf rfl fun cdv A outer s H E G u v z d fl n hr r1 r2 r3 ⟨⟨h1, h2⟩, hn, hf, hm⟩ => ?_
  have hs := hf.sub hn
  have few : d.names.length < 63 := Nat.lt_of_le_of_lt hn.few (by decide)
  obtain ⟨k1, k2⟩ := call_line hn hf hm
  refine Bl.ite (ET.val (Ev.call2 (f := fun (d : Bk C) t => impliedF d.names d.told t) (b := (⟨"call", fl, n⟩ : Ln)) cF hr (Ev.v 0 rfl r1) (Ev.tup3 Ev.str (Ev.listOf B (Ev.v 1 rfl r2)) (Ev.v 2 rfl r3)) ⟨⟨h1, k1⟩, k2, h2, few⟩)) (fun hh => Bl.rv (Ev.str.eq ?_)) fun hh => ?_
  · unfold wordF
    rw [if_pos hh]
  · have ho : others fl n ≠ [] := fun e => by
      rw [show impliedF d.names d.told ⟨"call", fl, n⟩ = true from by
        unfold impliedF contraryF
        rw [if_neg call_ne_off, if_pos e]] at hh
      cases hh
    obtain ⟨k3, k4⟩ := off_line hn hf hm ho
    refine Bl.rv (Ev.eq (Ev.ite (z := ("none" : Str)) (z' := ("open" : Str)) (ET.val (Ev.call2 (f := fun (d : Bk C) t => impliedF d.names d.told t) (b := (⟨"off", others fl n, n⟩ : Ln)) cF hr (Ev.v 0 rfl r1) (Ev.tup3 Ev.str (Ev.call2 (f := others) cO hr (Ev.v 1 rfl r2) (Ev.v 2 rfl r3) ⟨hs.lok, hs.lok.1 n hm⟩) (Ev.v 2 rfl r3)) ⟨⟨h1, k3⟩, k4, h2, few⟩)) (fun _ => Ev.str) fun _ => Ev.str) ?_)
    show _ = wordF d.names d.told fl n
    unfold wordF
    rw [if_neg (show ¬ impliedF d.names d.told ⟨"call", fl, n⟩ = true from by rw [hh]; exact Bool.false_ne_true)]
theorem c_fitting_book (D : C8.Def K mg "fitting_book" sFittingBook f fd) (b : Binds K fd ["entries", "rounds"] []) (M : ErrM P w K mg base "Clash" CC) (cB : C8.Cal P w K mg base 10 "book_of_rounds" (P2F RdsOk (fun es rs => rdBook C es rs)) []) (cS : C8.Cal P w K mg base 8 "some_panel" (P1 (fun d : Bk C => BkG d) (fun d => somePan CP d.names d.told)) []) :
    CalX P w K mg base 11 "fitting_book" (PFit C CC) := by
  refine calX_of D b scFittingBook (fun vs H Q E ⟨G, u, v, ns, es, rs, e, _⟩ => by rw [e]; rfl) fun cdv A outer s H vs Q E hr ⟨G, u, v, ns, es, rs, ev, sG, r1, r2, h, k1, k2⟩ => ?_
  subst ev
  have rok := h.2.2.perm h.2.1
  refine ws_asg 2 (d := rdBook C es rs) (Same.refl _) sG (EvF.ev (EvF.call2 (f := fun es rs => rdBook C es rs) cB hr (Ev.v 0 rfl r1) (Ev.v 1 rfl r2) rok)) (fun G1 H1 bw g1 rb => ?_) scFittingBook.nd
  refine ws_if (Same.refl _) g1.s (ET.isN (Ev.call1 (f := fun d : Bk C => somePan CP d.names d.told) cS hr (Ev.v 2 rfl rb) (rdBook_good rok))) (fun hz G2 H2 g2 => ?_) (fun hz G2 H2 g2 => ?_)
  · have hk := (VerOk.some (C := C) (CP := CP) h).mp hz
    refine ws_err M rx_takes hr (we_v 1 rfl fun dx hdx => ?_)
    exact k2 hk G2 _ dx ((g1.trans g2).trans (Gr.newM g2.s hdx)) ((g1.trans g2).fresh hdx) (g2.s.free hdx) upd_same
  · have hk : KeptR ns rs := Classical.byContradiction fun hc => by
      rw [(VerOk.some (C := C) (CP := CP) h).mpr hc] at hz
      cases hz
    refine ws_nil (ws_ret (Same.refl _) g2.s (Ev.v 2 rfl (rup g2.g rb)) fun G3 H3 w3 g3 r3 => k1 hk G3 H3 w3 ((g1.trans g2).trans g3) ?_)
    rw [← h.book]; exact r3
theorem c_verdict (D : C8.Def K mg "verdict" sVerdict f fd) (b : Binds K fd ["entries", "rounds", "field"] []) (cF : CalX P w K mg base 11 "fitting_book" (PFit C CC)) (cK : C8.Cal P w K mg base 6 "check_field" (P2 (fun l es => (Lok l ∧ Lok es) ∧ isField l es = true) (fun _ _ => ())) []) (cW : C8.Cal P w K mg base 12 "word_of" (P3 (WordOk (C := C)) (fun d f n => wordF d.names d.told f n)) []) :
    CalX P w K mg base 13 "verdict" (PVer CC) := by
  refine calX_of D b scVerdict (fun vs H Q E ⟨G, u, v, z, ns, es, rs, e, _⟩ => by rw [e]; rfl) fun cdv A outer s H vs Q E hr ⟨G, u, v, z, ns, es, rs, ev, sG, r1, r2, h, k1, k2⟩ => ?_
  subst ev
  have rok := h.2.2.perm h.2.1
  refine ws_asgW 3 (we_callX2 cF rx_takes hr (we_v 0 rfl (we_v 1 rfl ⟨G, u, v, ns, es, rs, rfl, sG, r1, r2, h, fun hk G1 H1 bw g1 rb => ?_, fun hk => k2 hk⟩))) scVerdict.nd
  obtain ⟨fl, rz, hf, kk⟩ := k1 hk
  have hn := h.1
  have hs := hf.sub hn
  refine ws_expr (Same.refl _) g1.s (Ev.call2 cK hr (Ev.v 2 rfl (rup g1.g rz)) (Ev.v 0 rfl (rup g1.g r1)) ⟨⟨hs.lok, rok.nm⟩, isField_congr (fun x => h.2.1.mem_iff.symm) (part_field hf hn)⟩) fun G2 H2 g2 => ?_
  refine ws_asgW 4 (we_dict00 fun q hq => ?_) scVerdict.nd
  have g02 := g1.trans g2
  have gq := g2.s.free hq
  have hq0 := g02.fresh hq
  have g03 := g02.off (o := .dK []) hq0 gq
  refine ws_for (fun i σ' G' H' => ∃ kvs t5, σ' = [some u, some v, some z, some bw, some (.ref q), t5] ∧ Gr G H G' H' ∧ G' q = none ∧ H' q = some (.dK kvs) ∧ Paired (KvR G') kvs ((fl.take i).map fun n => (n, wordF ns (toldL rs) fl n)) ∧ rp G' bw (⟨ns, toldL rs⟩ : Bk C) ∧ rp G' z fl)
    (G := G2) (Same.refl _) g03.s (EI.list (Ev.v 2 rfl (rup g02.g rz))) tgB1 (pg_name (i := 5) scVerdict.nd rfl (by first | exact Or.inl rfl | exact Or.inr rfl))
    (fun G3 H3 g3 => ⟨[], none, rfl, g03.trans g3, g3.f q gq (by rw [upd_same]; exact fun z => nomatch z), g3.hh _ _ upd_same, .nil, rup (g2.trans (Gr.newM g2.s hq |>.trans g3)).g rb, rup (g02.trans (Gr.newM g2.s hq |>.trans g3)).g rz⟩) ?_ ?_ rx_passes
  · rintro i c σ1 G3 H3 hc s23 s33 ⟨kvs, t5, rfl, gA, nq, hq3, pr, rb3, rz3⟩ G4 H4 σ2 g4 ⟨cw, rc, rfl⟩
    have hm : c ∈ fl := List.mem_of_getElem? hc
    have hb := (VerOk.book (C := C) (show VerOk ns ns rs from ⟨hn, List.Perm.refl _, h.2.2⟩))
    have hg : BkG (⟨ns, toldL rs⟩ : Bk C) := by rw [← hb]; exact rdBook_good h.2.2
    refine ws_dput (Nat.lt_trans (by omega) hr.units65) (Ev.ap g4.s (Ev.call3 (f := fun (d : Bk C) f n => wordF d.names d.told f n) (a := (⟨ns, toldL rs⟩ : Bk C)) (b := fl) (d := c) cW hr (Ev.v 3 rfl (rup g4.g rb3)) (Ev.v 2 rfl (rup g4.g rz3)) (Ev.v 5 rfl rc) ⟨⟨hg, told_few h.2.2⟩, hn, hf, hm⟩) fun G5 H5 ww g5 rw5 => ?_)
    have g45 := g4.trans g5
    have hq5 := g45.hh _ _ hq3
    have nq5 := g45.f q nq (by rw [hq3]; exact fun z => nomatch z)
    have pr5 : Paired (KvR G5) kvs ((fl.take i).map fun n => (n, wordF ns (toldL rs) fl n)) := pmono pr fun _ _ r => ⟨r.1, rup g45.g r.2⟩
    cases rc
    refine we_v 4 rfl (we_v 5 rfl ⟨q, kvs, c, rfl, rfl, hq5, ?_, ?_⟩)
    · have e1 := pr5.length
      rw [List.length_map, List.length_take] at e1
      have := hs.few
      have a6 : sizeLine = 16777216 := rfl
      omega
    · have hnew : c ∉ ((fl.take i).map fun n => (n, wordF ns (toldL rs) fl n)).map (·.1) := by
        rw [List.map_map, show ((fun x : Str × Str => x.1) ∘ fun n => (n, wordF ns (toldL rs) fl n)) = id from rfl, List.map_id]
        intro hmem
        obtain ⟨hi, e⟩ := List.getElem?_eq_some_iff.mp hc
        have nd := hs.nodup
        rw [← List.take_append_drop i fl, List.drop_eq_getElem_cons hi, e] at nd
        exact (List.nodup_append.mp nd).2.2 c hmem c List.mem_cons_self rfl
      rw [putK_new (kvr_fresh pr5 hnew)]
      have gB : Gr G H G5 (upd H5 q (.dK (kvs ++ [(Sum.inr c, ww)]))) := (gA.trans g45).off hq0 nq5
      refine ws_nil ⟨G5, g5.g, gB.s, _, _, rfl, gB, nq5, upd_same, ?_, rup g45.g rb3, rup g45.g rz3⟩
      rw [take_snoc hc, List.map_append]
      exact kvr_snoc pr5 rw5
  · rintro σ1 G3 H3 s23 s33 ⟨kvs, t5, rfl, gA, nq, hq3, pr, rb3, rz3⟩
    rw [List.take_length] at pr
    have gP := gA.promote hq0 nq hq3
    refine ws_retW (we_v 4 rfl (kk _ H3 _ gP ⟨q, kvs, rfl, by rw [dif_none hq0, upd_same], pmono pr fun _ _ r => ?_⟩))
    exact ⟨r.1, r.2⟩
end
end T82

namespace T82
open PySem L2 D1 Rp
/-! ### the law's own defs that compute -/
theorem subs_len {α : Type} (l : List α) : (subsF l).length = 2 ^ l.length := by
  induction l using snoc_ind with
  | h0 => rfl
  | h1 l x ih => rw [subs_snoc, List.length_append, List.length_map, ih, List.length_append, List.length_singleton, Nat.pow_succ]; omega
theorem subs_take {α : Type} {l : List α} {i : Nat} {x : α} (h : l[i]? = some x) : subsF (l.take (i + 1)) = subsF (l.take i) ++ (subsF (l.take i)).map fun s => s ++ [x] := by rw [take_snoc h, subs_snoc]
theorem two_le {n m : Nat} (h : n ≤ m) : 2 ^ n ≤ 2 ^ m := Nat.pow_le_pow_right (by decide) h
def fieldsF (ns : List Str) : List (List Str) := (subsF ns).drop 1
theorem field_part {ns f : List Str} (hn : Nm8 ns) (h : f ∈ fieldsF ns) : Part f ns := by
  obtain ⟨h1, h2⟩ := drop1_subs.mp h
  have s := subs_sub _ _ h1
  exact ⟨fun z hz => s.subset hz, hn.nodup.sublist s, hn.sorted.sublist s, h2⟩
theorem rowsStep_take {ns : List Str} {f : List (List Str)} {i : Nat} {r : List Str} (h : f[i]? = some r) : rowsStep ns (f.take (i + 1)) = rowsStep ns (f.take i) ++ (ns.filter fun n => !decide (n ∈ r)).map fun n => r ++ [n] := by
  unfold rowsStep
  rw [take_snoc h, List.flatMap_append]
  simp
theorem rowsStep_len {ns : List Str} : ∀ f : List (List Str), (rowsStep ns f).length ≤ f.length * ns.length
  | [] => by simp [rowsStep]
  | r :: f => by
    have ih := rowsStep_len (ns := ns) f
    unfold rowsStep at *
    rw [List.flatMap_cons, List.length_append, List.length_map, List.length_cons, Nat.succ_mul]
    have := List.length_filter_le (fun n => !decide (n ∈ r)) ns
    omega
theorem rowsUp_len {ns : List Str} (h : ns.length ≤ 3) : ∀ k, k ≤ 3 → (rowsUp ns k).length ≤ 27
  | 0, _ => by show ([[]] : List (List Str)).length ≤ 27; decide
  | 1, _ => by
    have := rowsStep_len (ns := ns) (rowsUp ns 0)
    have e : (rowsUp ns 0).length = 1 := rfl
    rw [e] at this
    show (rowsStep ns (rowsUp ns 0)).length ≤ 27
    omega
  | 2, _ => by
    have h1 := rowsStep_len (ns := ns) (rowsUp ns 0)
    have h2 := rowsStep_len (ns := ns) (rowsStep ns (rowsUp ns 0))
    have e : (rowsUp ns 0).length = 1 := rfl
    rw [e] at h1
    have h3 : (rowsStep ns (rowsUp ns 0)).length * ns.length ≤ 3 * 3 := Nat.mul_le_mul (by omega) h
    show (rowsStep ns (rowsStep ns (rowsUp ns 0))).length ≤ 27
    omega
  | 3, _ => by
    have h1 := rowsStep_len (ns := ns) (rowsUp ns 0)
    have h2 := rowsStep_len (ns := ns) (rowsStep ns (rowsUp ns 0))
    have h4 := rowsStep_len (ns := ns) (rowsStep ns (rowsStep ns (rowsUp ns 0)))
    have e : (rowsUp ns 0).length = 1 := rfl
    rw [e] at h1
    have h3 : (rowsStep ns (rowsUp ns 0)).length * ns.length ≤ 3 * 3 := Nat.mul_le_mul (by omega) h
    have h5 : (rowsStep ns (rowsStep ns (rowsUp ns 0))).length * ns.length ≤ 9 * 3 := Nat.mul_le_mul (by omega) h
    show (rowsStep ns (rowsStep ns (rowsStep ns (rowsUp ns 0)))).length ≤ 27
    omega
/-- at most six rows of three names -/
theorem allRows_six {ns : List Str} (hn : ns.Nodup) (h : ns.length ≤ 3) : (allRowsF ns).length ≤ 6 := by
  have st : ∀ k, (rowsUp ns (k + 1)).length = (rowsUp ns k).length * (ns.length - k) := fun k => by
    show (rowsStep ns (rowsUp ns k)).length = _
    have key : ∀ f : List (List Str), (∀ r ∈ f, r.length = k ∧ r.Nodup ∧ ∀ x ∈ r, x ∈ ns) → (rowsStep ns f).length = f.length * (ns.length - k) := fun f => by
      induction f with
      | nil => intro _; simp [rowsStep]
      | cons r f ih =>
        intro hf
        have e1 := ih fun r' hr' => hf r' (List.mem_cons_of_mem _ hr')
        obtain ⟨i1, i2, i3⟩ := hf r List.mem_cons_self
        have e2 : (ns.filter fun n => !decide (n ∈ r)).length = ns.length - k := by
          have p1 := (filter_perm (fun n => decide (n ∈ r)) ns).length_eq
          rw [List.length_append] at p1
          have p2 : (ns.filter fun n => decide (n ∈ r)).Perm r := perm_same (hn.sublist List.filter_sublist) i2 fun x => by
            rw [List.mem_filter, decide_eq_true_eq]
            exact ⟨fun z => z.2, fun z => ⟨i3 x z, z⟩⟩
          have p3 := p2.length_eq
          omega
        unfold rowsStep at *
        rw [List.flatMap_cons, List.length_append, List.length_map, e1, e2, List.length_cons, Nat.succ_mul]
        omega
    exact key _ fun r hr => (mem_rowsUp k r).mp hr
  unfold allRowsF
  have e0 : (rowsUp ns 0).length = 1 := rfl
  rcases (by omega : ns.length = 0 ∨ ns.length = 1 ∨ ns.length = 2 ∨ ns.length = 3) with e | e | e | e
  · rw [e, e0]; decide
  · rw [e, st 0, e0, e]; decide
  · rw [e, st 1, st 0, e0, e]; decide
  · rw [e, st 2, st 1, st 0, e0, e]; decide
section
variable {P : Program} {w : World} {K : PySem.W.Frag} {mg : Str → Option Value} {base : Heap} {f C CP CC CS : Addr} {fd : FuncData}
theorem c_law_fields (D : C8.Def K mg "_law_fields" sLawFields f fd) (b : Binds K fd ["names"] []) : C8.Cal P w K mg base 1 "_law_fields" (P1 (fun ns => ns.length ≤ 6) fieldsF) [] := by
  refine fn1 D b scLawFields rfl fun cdv A outer s H E G v ns hr r h => ?_
  have a6 : sizeLine = 16777216 := rfl
  refine Bl.asg 1 (d := ([[]] : List (List Str))) (Ev.lst (EL.cons Ev.nil EL.nil) (show 1 ≤ 1000 by decide)) (fun G1 fv s1 rf => ?_) scLawFields.nd
  refine Bl.for_ (fun i σ' G' => ∃ fv t2 t3, σ' = [some v, some fv, t2, t3] ∧ rp G' fv (subsF (ns.take i)))
    (EI.list (Ev.v 0 rfl (rup s1 r))) tgB1 (pg_name (i := 2) scLawFields.nd rfl (by first | exact Or.inl rfl | exact Or.inr rfl)) (fun G2 s2 => ⟨fv, none, none, rfl, rup s2 rf⟩) ?_ ?_ PassesOwn.never
  · rintro i c σ1 G2 hc s12 ⟨fv, t2, t3, rfl, rf⟩ G3 σ2 s23 ⟨nw, rn, rfl⟩
    have hl : (subsF (ns.take i)).length ≤ 64 := by
      rw [subs_len]
      exact two_le (m := 6) (Nat.le_trans (by rw [List.length_take]; exact Nat.min_le_right _ _) h)
    refine Bl.asg 1 (d := subsF (ns.take (i + 1))) (Ev.eq (Ev.cat (Ev.v 1 rfl (rup s23 rf)) (Ev.lcMap 3 (f := fun s : List Str => s ++ [c]) (EI.list (Ev.v 1 rfl (rup s23 rf))) (fun s' hs' G' v' s1' r' s H C cl fp => Ev.cat (Ev.v 3 rfl r') (Ev.lst (EL.cons (Ev.v 2 rfl (rup s1' rn)) EL.nil) (show 1 ≤ 1000 by decide)) ?_) (by omega) scLawFields.nd (blkOk_by (N := nLawFields) (sc := C8.fnScope sLawFields) (by decide +kernel))) (by rw [List.length_map]; omega)) (subs_take hc).symm) (fun G4 fv2 s4 rf2 => Bl.nil fun G5 s5 => ⟨fv2, _, t3, rfl, rup s5 rf2⟩) scLawFields.nd
    have := (subs_sub _ _ hs').length_le
    rw [List.length_take] at this
    have : [c].length = 1 := rfl
    omega
  · rintro σ1 G2 s12 ⟨fv, t2, t3, rfl, rf⟩
    rw [List.take_length] at rf
    exact Bl.rv (Ev.eq (Ev.slFrom (Ev.v 1 rfl rf) (Ev.int (i := 1))) (cutL_from (n := 1)))
theorem c_law_contrary (D : C8.Def K mg "_law_contrary" sLawContrary f fd) (b : Binds K fd ["line"] []) (B : Bt mg) : C8.Cal P w K mg base 1 "_law_contrary" (P1 (fun t : Ln => LnOk t ∧ t.b.length < 63) contraryF) [] := by
  refine fn1 D b scLawContrary rfl fun cdv A outer s H E G v t hr r h => ?_
  have a6 : sizeLine = 16777216 := rfl
  refine Bl.ite (ET.eqD hr.units (Ev.ix30 (Ev.v 0 rfl r)) Ev.str h.1.1.2 zok_off.2) (fun hh => ?_) fun hh => ?_
  · have ho : t.a = "off" := of_decide_eq_true hh
    refine Bl.rv (Ev.eq (Ev.opt (Ev.tup3 Ev.str (Ev.sortedS B (Ev.cat (Ev.ix31 (Ev.v 0 rfl r)) (Ev.lst (EL.cons (Ev.ix32 (Ev.v 0 rfl r)) EL.nil) (show 1 ≤ 1000 by decide)) ?_) ?_) (Ev.ix32 (Ev.v 0 rfl r)))) ?_)
    · have := h.2; have : [t.c].length = 1 := rfl; omega
    · rw [List.length_append]; have := h.2; have : [t.c].length = 1 := rfl; omega
    · unfold contraryF
      rw [if_pos ho]
  · have ho : ¬ t.a = "off" := of_decide_eq_false hh
    refine bl_asgSel 1 2 (t := fun n => !decide (n = t.c)) (EI.list (Ev.ix31 (Ev.v 0 rfl r))) (fun n hn G' v' s' r' s H C2 cl fp => ET.neD hr.units (Ev.v 2 rfl r') (Ev.ix32 (Ev.v 0 rfl (rup s' r))) (h.1.2.1.1 n hn).2 h.1.2.2.2) (sz64 h.1.2.1.2) scLawContrary.nd (blkOk_by (N := nLawContrary) (sc := C8.fnScope sLawContrary) (by decide +kernel)) (fun G2 ov s2 ro => ?_)
    refine Bl.rv (Ev.eq (Ev.ite (z := contraryF t) (z' := contraryF t) (ET.neD hr.units (Ev.v 1 rfl ro) Ev.nil (fun a ha => (h.1.2.1.1 a (List.mem_filter.mp ha).1).2) lay_nil) (fun hh => ?_) fun hh => ?_) (by split <;> rfl))
    · have hne : ¬ t.b.filter (fun n => !decide (n = t.c)) = [] := by simpa using hh
      refine Ev.eq (Ev.opt (Ev.tup3 Ev.str (Ev.v 1 rfl ro) (Ev.ix32 (Ev.v 0 rfl (rup s2 r))))) ?_
      unfold contraryF
      rw [if_neg ho, if_neg hne]
    · have hne : t.b.filter (fun n => !decide (n = t.c)) = [] := by simpa using hh
      refine Ev.eq Ev.nonO ?_
      unfold contraryF
      rw [if_neg ho, if_pos hne]
/-- lines and one more that may be asked -/
def LawAsk (ns : List Str) (ls : List Ln) (t : Ln) : Prop := (Lok ns ∧ LnsOk ls ∧ ls.length < 3900) ∧ LnOk t ∧ isLine t ns = true ∧ t.b.length < 63
theorem c_law_follows (D : C8.Def K mg "_law_follows" sLawFollows f fd) (b : Binds K fd ["names", "lines", "line"] []) (cC : C8.Cal P w K mg base 1 "_law_contrary" (P1 (fun t : Ln => LnOk t ∧ t.b.length < 63) contraryF) []) (cS : C8.Cal P w K mg base 2 "_law_some_rows" (P2 (fun ns ls => Lok ns ∧ LnsOk ls) lawSome) []) :
    C8.Cal P w K mg base 3 "_law_follows" (P3 LawAsk lawFollows) [] := by
  refine fn3 D b scLawFollows rfl fun cdv A outer s H E G u v z ns ls t hr r1 r2 r3 ⟨⟨h1, h2, h3⟩, h4, h5, h6⟩ => ?_
  have a6 : sizeLine = 16777216 := rfl
  refine Bl.asg 3 (Ev.call1 (f := contraryF) cC hr (Ev.v 2 rfl r3) ⟨h4, h6⟩) (fun G1 ov s1 ro => ?_) scLawFollows.nd
  cases e : contraryF t with
  | none =>
    rw [e] at ro
    refine Bl.rv (Ev.eq (Ev.or (y := true) (z := true) (Ev.isN (o := (none : Option Ln)) (Ev.v 3 rfl ro)) fun hh => (by cases hh)) ?_)
    unfold lawFollows
    rw [e]
    rfl
  | some o =>
    rw [e] at ro
    obtain ⟨k1, k2⟩ := contrary_ok h1 h4 h5 e
    have ro' : rp G1 ov o := ro
    have hl : LnsOk (ls ++ [o]) := ⟨fun x hx => by
      rcases List.mem_append.mp hx with h | h
      · exact h2.1 x h
      · rw [List.mem_singleton.mp h]; exact k1, by rw [List.length_append]; have : [o].length = 1 := rfl; omega⟩
    refine Bl.rv (Ev.eq (Ev.or (y := false) (z := (lawSome ns (ls ++ [o])).isNone) (Ev.isN (o := some o) (Ev.v 3 rfl ro)) fun _ => Ev.one (Ev.isN (Ev.call2 (f := lawSome) cS hr (Ev.v 0 rfl (rup s1 r1)) (Ev.cat (Ev.v 1 rfl (rup s1 r2)) (Ev.lst (EL.cons (Ev.v 3 rfl ro') EL.nil) (show 1 ≤ 1000 by decide)) (by have : [o].length = 1 := rfl; omega)) ⟨h1, hl⟩))) ?_)
    unfold lawFollows
    rw [e]
    rfl
theorem c_law_all_rows (D : C8.Def K mg "_law_all_rows" sLawAllRows f fd) (b : Binds K fd ["names"] []) (B : Bt mg) : C8.Cal P w K mg base 1 "_law_all_rows" (P1 (fun ns => Lok ns ∧ ns.length ≤ 3) allRowsF) [] := by
  refine fn1 D b scLawAllRows rfl fun cdv A outer s H E G v ns hr r ⟨hn, h⟩ => ?_
  have a6 : sizeLine = 16777216 := rfl
  refine Bl.asg 1 (d := ([[]] : List (List Str))) (Ev.lst (EL.cons Ev.nil EL.nil) (show 1 ≤ 1000 by decide)) (fun G1 fv s1 rf => ?_) scLawAllRows.nd
  have hup : (upto ((ns.length : Nat) : Int).toNat).length = ns.length := by simp [upto]
  refine Bl.for_ (fun i σ' G' => ∃ fv t2 t3 t4 t5, σ' = [some v, some fv, t2, t3, t4, t5] ∧ rp G' fv (rowsUp ns i))
    (EI.range1 B.range (Ev.lenL B (Ev.v 0 rfl (rup s1 r))) ⟨by omega, by omega⟩) tgB1 (pg_name (i := 2) scLawAllRows.nd rfl (by first | exact Or.inl rfl | exact Or.inr rfl)) (fun G2 s2 => ⟨fv, none, none, none, none, rfl, rup s2 rf⟩) ?_ ?_ PassesOwn.never
  · rintro i c σ1 G2 hc s12 ⟨fv, t2, t3, t4, t5, rfl, rf⟩ G3 σ2 s23 ⟨iw, ri, rfl⟩
    have hi : i < ns.length := by rw [← hup]; exact (List.getElem?_eq_some_iff.mp hc).1
    have hl := rowsUp_len h i (by omega)
    refine Bl.asg 3 (d := ([] : List (List Str))) Ev.nil (fun G4 lv s4 rl => ?_) scLawAllRows.nd
    have rf4 := rup (s23.trans s4) rf
    refine Bl.for_ (fun j σ' G' => ∃ lv t4 t5, σ' = [some v, some fv, some iw, some lv, t4, t5] ∧ rp G' lv (rowsStep ns ((rowsUp ns i).take j)))
      (EI.list (Ev.v 1 rfl rf4)) tgB1 (pg_name (i := 4) scLawAllRows.nd rfl (by first | exact Or.inl rfl | exact Or.inr rfl)) (fun G5 s5 => ⟨lv, _, _, rfl, rup s5 rl⟩) ?_ ?_ PassesOwn.never
    · rintro j d σ1 G5 hd s45 ⟨lv, t4, t5, rfl, rl⟩ G6 σ2 s56 ⟨rw', rr, rfl⟩
      obtain ⟨i1, i2, i3⟩ := (mem_rowsUp i d).mp (List.mem_of_getElem? hd)
      have l1 := rowsStep_len (ns := ns) ((rowsUp ns i).take j)
      have l2 : ((rowsUp ns i).take j).length * ns.length ≤ 27 * 3 := Nat.mul_le_mul (Nat.le_trans (by rw [List.length_take]; exact Nat.min_le_right _ _) hl) h
      have l3 := List.length_filter_le (fun n => !decide (n ∈ d)) ns
      have rn6 := rup ((((s1.trans s12).trans s23).trans s4).trans (s45.trans s56)) r
      refine Bl.asg 3 (d := rowsStep ns ((rowsUp ns i).take (j + 1))) (Ev.eq (Ev.cat (Ev.v 3 rfl (rup s56 rl)) (Ev.lcIf 5 (t := fun n => !decide (n ∈ d)) (f := fun n => d ++ [n]) (EI.list (Ev.v 0 rfl rn6)) (fun n hn' G' v' s1' r' s H C cl fp => ET.niD hr.units65 (Ev.v 5 rfl r') (Ev.v 4 rfl (rup s1' rr)) (hn.1 n hn').2 (fun x hx => (hn.1 x (i3 x hx)).2))
        (fun n hn' _ G' v' s1' r' s H C cl fp => Ev.cat (Ev.v 4 rfl (rup s1' rr)) (Ev.lst (EL.cons (Ev.v 5 rfl r') EL.nil) (show 1 ≤ 1000 by decide)) (by have : [n].length = 1 := rfl; omega)) (by omega) scLawAllRows.nd (blkOk_by (N := nLawAllRows) (sc := C8.fnScope sLawAllRows) (by decide +kernel))) (by rw [List.length_map]; omega)) (rowsStep_take hd).symm) (fun G7 lv2 s7 rl2 => Bl.nil fun G8 s8 => ⟨lv2, _, t5, rfl, rup s8 rl2⟩) scLawAllRows.nd
    · rintro σ1 G5 s45 ⟨lv, t4, t5, rfl, rl⟩
      rw [List.take_length] at rl
      exact Bl.asg 1 (d := rowsUp ns (i + 1)) (Ev.v 3 rfl rl) (fun G6 fv2 s6 rf2 => Bl.nil fun G7 s7 => ⟨fv2, _, _, _, _, rfl, rup s7 rf2⟩) scLawAllRows.nd
  · rintro σ1 G2 s12 ⟨fv, t2, t3, t4, t5, rfl, rf⟩
    rw [hup] at rf
    exact Bl.rv (Ev.v 1 rfl rf)
theorem c_law_all_panels (D : C8.Def K mg "_law_all_panels" sLawAllPanels f fd) (b : Binds K fd ["names"] []) (cR : C8.Cal P w K mg base 1 "_law_all_rows" (P1 (fun ns => Lok ns ∧ ns.length ≤ 3) allRowsF) []) : C8.Cal P w K mg base 2 "_law_all_panels" (P1 (fun ns => (Lok ns ∧ ns.length ≤ 3) ∧ ns.Nodup) allPanelsF) [] := by
  refine fn1 D b scLawAllPanels rfl fun cdv A outer s H E G v ns hr r h => ?_
  have a6 : sizeLine = 16777216 := rfl
  have h6 := allRows_six h.2 h.1.2
  refine Bl.asg 1 (d := ([[]] : List (List (List Str)))) (Ev.lst (EL.cons Ev.nil EL.nil) (show 1 ≤ 1000 by decide)) (fun G1 fv s1 rf => ?_) scLawAllPanels.nd
  refine Bl.for_ (fun i σ' G' => ∃ fv t2 t3, σ' = [some v, some fv, t2, t3] ∧ rp G' fv (subsF ((allRowsF ns).take i)))
    (EI.list (Ev.call1 (f := allRowsF) cR hr (Ev.v 0 rfl (rup s1 r)) h.1)) tgB1 (pg_name (i := 2) scLawAllPanels.nd rfl (by first | exact Or.inl rfl | exact Or.inr rfl)) (fun G2 s2 => ⟨fv, none, none, rfl, rup s2 rf⟩) ?_ ?_ PassesOwn.never
  · rintro i c σ1 G2 hc s12 ⟨fv, t2, t3, rfl, rf⟩ G3 σ2 s23 ⟨nw, rn, rfl⟩
    have hl : (subsF ((allRowsF ns).take i)).length ≤ 64 := by
      rw [subs_len]
      exact two_le (m := 6) (Nat.le_trans (by rw [List.length_take]; exact Nat.min_le_right _ _) h6)
    refine Bl.asg 1 (d := subsF ((allRowsF ns).take (i + 1))) (Ev.eq (Ev.cat (Ev.v 1 rfl (rup s23 rf)) (Ev.lcMap 3 (f := fun s : List (List Str) => s ++ [c]) (EI.list (Ev.v 1 rfl (rup s23 rf))) (fun s' hs' G' v' s1' r' s H C cl fp => Ev.cat (Ev.v 3 rfl r') (Ev.lst (EL.cons (Ev.v 2 rfl (rup s1' rn)) EL.nil) (show 1 ≤ 1000 by decide)) ?_) (by omega) scLawAllPanels.nd (blkOk_by (N := nLawAllPanels) (sc := C8.fnScope sLawAllPanels) (by decide +kernel))) (by rw [List.length_map]; omega)) (subs_take hc).symm) (fun G4 fv2 s4 rf2 => Bl.nil fun G5 s5 => ⟨fv2, _, t3, rfl, rup s5 rf2⟩) scLawAllPanels.nd
    have := (subs_sub _ _ hs').length_le
    rw [List.length_take] at this
    have : [c].length = 1 := rfl
    omega
  · rintro σ1 G2 s12 ⟨fv, t2, t3, rfl, rf⟩
    rw [List.take_length] at rf
    exact Bl.rv (Ev.eq (Ev.slFrom (Ev.v 1 rfl rf) (Ev.int (i := 1))) (cutL_from (n := 1)))
end
end T82

namespace T82
open PySem L2 D1 Rp
/-! ### the law's own verdicts -/
theorem _root_.L2.Room.units1 {k : Nat} {A : Around} (r : L2.Room k A) : A.units + 1 < cLine := by have := r.un; omega
theorem word_law {ns f : List Str} {rs : List Rd} {n : Str} (hn : Nm8 ns) (rok : RdsOk ns rs) : wordF ns (toldL rs) f n = if others f n = [] ∨ lawFollows ns (lawLines rs) ⟨"call", f, n⟩ = true then ("card" : Str) else if lawFollows ns (lawLines rs) ⟨"off", others f n, n⟩ = true then ("none" : Str) else ("open" : Str) := by
  have hm : ∀ x, x ∈ toldL rs ↔ x ∈ lawLines rs := fun x => by rw [law_lines (es := ns) (fun r hr => rok.rd r hr)]
  unfold wordF
  rw [implied_law hn.nodup hm, implied_law hn.nodup hm]
  by_cases ho : others f n = []
  · have e : lawFollows ns (lawLines rs) ⟨"call", f, n⟩ = true := by
      unfold lawFollows contraryF
      rw [if_neg call_ne_off, if_pos ho]
    rw [if_pos e, if_pos (show others f n = [] ∨ lawFollows ns (lawLines rs) ⟨"call", f, n⟩ = true from .inl ho)]
  · by_cases hc : lawFollows ns (lawLines rs) ⟨"call", f, n⟩ = true
    · rw [if_pos hc, if_pos (.inr hc)]
    · rw [if_neg hc, if_neg (fun h : others f n = [] ∨ lawFollows ns (lawLines rs) ⟨"call", f, n⟩ = true => h.elim ho hc)]
theorem keys_verd {ns f : List Str} {rs : List Rd} : ((verdF ns rs f).kvs.map (·.1)) = f := by
  unfold verdF
  rw [List.map_map, show ((fun x : Str × Str => x.1) ∘ fun n => (n, wordF ns (toldL rs) f n)) = id from rfl, List.map_id]
theorem keys_map {f : List Str} {g : Str → Str} : (f.map fun n => (n, g n)).map (·.1) = f := by
  rw [List.map_map, show ((fun x : Str × Str => x.1) ∘ fun n => (n, g n)) = id from rfl, List.map_id]
theorem fresh_key {f : List Str} {i : Nat} {c : Str} (nd : f.Nodup) (hc : f[i]? = some c) : c ∉ f.take i := fun hmem => by
  obtain ⟨hi, e⟩ := List.getElem?_eq_some_iff.mp hc
  rw [← List.take_append_drop i f, List.drop_eq_getElem_cons hi, e] at nd
  exact (List.nodup_append.mp nd).2.2 c hmem c List.mem_cons_self rfl
/-- one more entry of a dict that is being built -/
theorem kv_more {G : Hp} {kvs : List (Key × V)} {f : List Str} {g : Str → Str} {i : Nat} {c : Str} {v : V} (nd : f.Nodup) (hc : f[i]? = some c) (pr : Paired (KvR G) kvs ((f.take i).map fun n => (n, g n))) (r : rp G v (g c)) : Paired (KvR G) (putK kvs (Sum.inr c) v) ((f.take (i + 1)).map fun n => (n, g n)) := by
  rw [putK_new (kvr_fresh pr (by rw [keys_map]; exact fresh_key nd hc)), take_snoc hc, List.map_append]
  exact kvr_snoc pr r
def PLV : Sp := fun vs H Q _ => ∃ G u v z ns rs f, vs = [u, v, z] ∧ Same G H ∧ rp G u ns ∧ rp G v rs ∧ rp G z f ∧ Nm8 ns ∧ RdsOk ns rs ∧ Part f ns ∧ ∀ G' H' w, Gr G H G' H' → rp (dif G' H) w (verdF ns rs f) → Q w H'
def allF (ns : List Str) (rs : List Rd) (f : List Str) : DctS Str := ⟨f.map fun n => (n, allWord ns rs f n)⟩
def PAll : Sp := fun vs H Q _ => ∃ G u v z ns rs f, vs = [u, v, z] ∧ Same G H ∧ rp G u ns ∧ rp G v rs ∧ rp G z f ∧ Nm8 ns ∧ ns.length ≤ 3 ∧ RdsOk ns rs ∧ Part f ns ∧ ∀ G' H' w, Gr G H G' H' → rp G' w (allF ns rs f) → Q w H'
def hiddenF (rows : List (List Str)) (rs : List Rd) (f : List Str) (d : Str → Str) : Bool :=
  if (rs.filter fun r => !decide (cardsF rows r.1 = r.2)) = [] then decide ((f.filter fun n => !decide (d n = "open") && !decide (decide (d n = "card") = decide (n ∈ cardsF rows f))) = []) else true
def PHid : Sp := fun vs H Q _ => ∃ G u v z t ns rows rs f, ∃ g : Str → Str, vs = [u, v, z, t] ∧ Same G H ∧ rp G u rows ∧ rp G v rs ∧ rp G z f ∧ rp G t (⟨f.map fun n => (n, g n)⟩ : DctS Str) ∧ Nm8 ns ∧ (∀ r ∈ rows, r.Perm ns) ∧ rows.length ≤ 8 ∧ RdsOk ns rs ∧ Part f ns ∧ (∀ n ∈ f, PyData.strOk (g n) = true) ∧
  ∀ G' H', Gr G H G' H' → Q (.bl (hiddenF rows rs f g)) H'
/-- what is told by the law's try -/
def PTold : Sp := fun vs H Q _ => ∃ G u v z ns es rs, vs = [u, v, z] ∧ Same G H ∧ rp G u es ∧ rp G v rs ∧ VerOk ns es rs ∧ (KeptR ns rs → ∃ f, rp G z f ∧ Part f ns ∧ ∀ G' H' w, Gr G H G' H' → rp (dif G' H) w (verdF ns rs f) → Q w H') ∧
  (¬ KeptR ns rs → ∀ G' H' w, Gr G H G' H' → rp G' w (⟨"Clash", true⟩ : M2 Str Bool) → Q w H')
theorem strOk_words : PyData.strOk ("card" : Str) = true ∧ PyData.strOk ("none" : Str) = true ∧ PyData.strOk ("open" : Str) = true := by decide +kernel
theorem word_ok {ns ls f n} : PyData.strOk (wordF ns ls f n) = true := by
  unfold wordF
  split
  · exact strOk_words.1
  · split
    · exact strOk_words.2.1
    · exact strOk_words.2.2
theorem lk_map {f : List Str} {g : Str → Str} {n : Str} (h : n ∈ f) : lkS n (f.map fun n => (n, g n)) = some (g n) := by
  induction f with
  | nil => cases h
  | cons x f ih =>
    show (if x = n then some (g x) else lkS n (f.map fun n => (n, g n))) = some (g n)
    by_cases e : x = n
    · rw [if_pos e, e]
    · rw [if_neg e]
      rcases List.mem_cons.mp h with h | h
      · exact absurd h.symm e
      · exact ih h
section
variable {P : Program} {w : World} {K : PySem.W.Frag} {mg : Str → Option Value} {base : Heap} {f C CP CC CS : Addr} {fd : FuncData}
theorem c_law_verdict (D : C8.Def K mg "_law_verdict" sLawVerdict f fd) (b : Binds K fd ["names", "rounds", "field"] []) (cL : C8.Cal P w K mg base 1 "_law_round_lines" (P1 (fun rs => ∃ es, RdsOk es rs) lawLines) []) (cF : C8.Cal P w K mg base 3 "_law_follows" (P3 LawAsk lawFollows) []) :
    C8.Cal P w K mg base 4 "_law_verdict" PLV [] := by
  refine C8.cal0 D b .nil scLawVerdict (fun vs H Q E ⟨G, u, v, z, ns, rs, f, e, _⟩ => by rw [e]; rfl) fun cdv A outer s H vs Q E hr ⟨G, u, v, z, ns, rs, fl, ev, sG, r1, r2, r3, hn, rok, hf, kk⟩ => ?_
  subst ev
  refine ⟨_, pss_ws, ?_⟩
  have hs := hf.sub hn
  have a6 : sizeLine = 16777216 := rfl
  have ll := lawLines_ok rok
  have lf : (lawLines rs).length < 3900 := by rw [law_lines (es := ns) (fun r hr => rok.rd r hr)]; exact told_few rok
  refine WS.cons (ps_par (i := 3) (j := 4) rfl scLawVerdict.nd rfl rfl (by decide) rfl rfl (pa_cons pe_we (pa_cons pe_we pa_nil)) rfl) ?_
  refine Ev.ap (a := lawLines rs) sG (Ev.call1 cL hr (Ev.v 1 rfl r2) ⟨ns, rok⟩) fun G1 H1 lw g1 rl => we_dict00 fun q hq => ⟨lw, .ref q, rfl, ?_⟩
  have gq := g1.s.free hq
  have hq0 := g1.fresh hq
  have g02 := g1.off (o := .dK []) hq0 gq
  refine ws_for (fun i σ' G' H' => ∃ kvs t5 t6 t7, σ' = [some u, some v, some z, some lw, some (.ref q), t5, t6, t7] ∧ Gr G H G' H' ∧ G' q = none ∧ H' q = some (.dK kvs) ∧ Paired (KvR G') kvs ((fl.take i).map fun n => (n, wordF ns (toldL rs) fl n)) ∧ Same G1 G')
    (G := G1) (Same.refl _) g02.s (EI.list (Ev.v 2 rfl (rup g1.g r3))) tgB1 (pg_name (i := 5) scLawVerdict.nd rfl (by first | exact Or.inl rfl | exact Or.inr rfl))
    (fun G3 H3 g3 => ⟨[], none, none, none, rfl, g02.trans g3, g3.f q gq (by rw [upd_same]; exact fun z => nomatch z), g3.hh _ _ upd_same, .nil, g3.g⟩) ?_ ?_ PassesOwn.never
  · rintro i c σ1 G3 H3 hc s23 s33 ⟨kvs, t5, t6, t7, rfl, gA, nq, hq3, pr, sA⟩ G4 H4 σ2 g4 ⟨cw, rc, rfl⟩
    have hm : c ∈ fl := List.mem_of_getElem? hc
    have rz4 := rup (g1.g.trans (sA.trans g4.g)) r3
    refine ws_asgSel 6 7 (t := fun x => !decide (x = c)) (Same.refl _) g4.s (EI.list (Ev.v 2 rfl rz4)) (fun x hx G' v' s' r' s H C2 cl fp => ET.neD hr.units (Ev.v 7 rfl r') (Ev.v 5 rfl (rup s' rc)) (hs.lok.1 x hx).2 (hs.lok.1 c hm).2) (fun G5 H5 ow g5 ro => ?_) (sz64 hs.lok.2) scLawVerdict.nd (blkOk_by (N := nLawVerdict) (sc := C8.fnScope sLawVerdict) (by decide +kernel))
    have g45 := g4.trans g5
    have sB := sA.trans g45.g
    have rn5 := rup (g1.g.trans sB) r1
    have rz5 := rup (g1.g.trans sB) r3
    have rl5 := rup sB rl
    have rc5 := rup g5.g rc
    obtain ⟨k1, k2⟩ := call_line hn hf hm
    have la : LawAsk ns (lawLines rs) ⟨"call", fl, c⟩ := ⟨⟨hn.lok, ll, lf⟩, k1, k2, Nat.lt_of_le_of_lt hs.few (by decide)⟩
    have loo : Da.lay (others fl c) := fun a ha => (hs.lok.1 a (List.mem_filter.mp ha).1).2
    have ew := word_law (f := fl) (n := c) hn rok
    refine ws_if (z := decide (others fl c = []) || lawFollows ns (lawLines rs) ⟨"call", fl, c⟩) (Same.refl _) g5.s (EW.t (EW.or (ET.eqD hr.units (Ev.v 6 rfl ro) Ev.nil loo lay_nil) fun _ => EW.or1 (ET.val (Ev.call3 (f := lawFollows) (d := (⟨"call", fl, c⟩ : Ln)) cF hr (Ev.v 0 rfl rn5) (Ev.v 3 rfl rl5) (Ev.tup3 Ev.str (Ev.v 2 rfl rz5) (Ev.v 5 rfl rc5)) la)))) (fun hh G6 H6 g6 => ?_) (fun hh G6 H6 g6 => ?_)
    · rw [Bool.or_eq_true, decide_eq_true_eq] at hh
      rw [if_pos hh] at ew
      have g46 := g45.trans g6
      refine ws_dput hr.units1 (Ev.ap g6.s (Ev.str (i := ("card" : Str))) fun G7 H7 ww g7 rw7 => ?_)
      have g47 := g46.trans g7
      cases rc
      refine we_v 4 rfl (we_v 5 rfl ⟨q, kvs, c, rfl, rfl, g47.hh _ _ hq3, ?_, ?_⟩)
      · have e1 := pr.length
        rw [List.length_map, List.length_take] at e1
        have := hs.few
        omega
      · have gB := (gA.trans g47).off (o := .dK (putK kvs (Sum.inr c) ww)) hq0 (g47.f q nq (by rw [hq3]; exact fun z => nomatch z))
        refine ws_nil (ws_nil ⟨G7, (g5.trans (g6.trans g7)).g, gB.s, _, _, _, _, rfl, gB, g47.f q nq (by rw [hq3]; exact fun z => nomatch z), upd_same, kv_more hs.nodup hc (pmono pr fun _ _ r => ⟨r.1, rup g47.g r.2⟩) ?_, sA.trans g47.g⟩)
        rw [ew]; exact rw7
    · rw [Bool.or_eq_false_iff, decide_eq_false_iff_not] at hh
      rw [if_neg (fun h => h.elim hh.1 fun h2 => by rw [hh.2] at h2; cases h2)] at ew
      have g46 := g45.trans g6
      obtain ⟨k3, k4⟩ := off_line hn hf hm hh.1
      have la2 : LawAsk ns (lawLines rs) ⟨"off", others fl c, c⟩ := ⟨⟨hn.lok, ll, lf⟩, k3, k4, by
        have : (others fl c).length ≤ fl.length := List.length_filter_le _ _
        have := hs.few
        show (others fl c).length < 63
        omega⟩
      refine ws_dput hr.units1 (Ev.ap (a := if lawFollows ns (lawLines rs) ⟨"off", others fl c, c⟩ = true then ("none" : Str) else "open") g6.s (Ev.ite (ET.val (Ev.call3 (f := lawFollows) (d := (⟨"off", others fl c, c⟩ : Ln)) cF hr (Ev.v 0 rfl (rup g6.g rn5)) (Ev.v 3 rfl (rup g6.g rl5)) (Ev.tup3 Ev.str (Ev.v 6 rfl (rup g6.g ro)) (Ev.v 5 rfl (rup g6.g rc5))) la2)) (fun _ => Ev.str) fun _ => Ev.str) fun G7 H7 ww g7 rw7 => ?_)
      have g47 := g46.trans g7
      cases rc
      refine we_v 4 rfl (we_v 5 rfl ⟨q, kvs, c, rfl, rfl, g47.hh _ _ hq3, ?_, ?_⟩)
      · have e1 := pr.length
        rw [List.length_map, List.length_take] at e1
        have := hs.few
        omega
      · have gB := (gA.trans g47).off (o := .dK (putK kvs (Sum.inr c) ww)) hq0 (g47.f q nq (by rw [hq3]; exact fun z => nomatch z))
        refine ws_nil (ws_nil ⟨G7, (g5.trans (g6.trans g7)).g, gB.s, _, _, _, _, rfl, gB, g47.f q nq (by rw [hq3]; exact fun z => nomatch z), upd_same, kv_more hs.nodup hc (pmono pr fun _ _ r => ⟨r.1, rup g47.g r.2⟩) ?_, sA.trans g47.g⟩)
        rw [ew]; exact rw7
  · rintro σ1 G3 H3 s23 s33 ⟨kvs, t5, t6, t7, rfl, gA, nq, hq3, pr, sA⟩
    rw [List.take_length] at pr
    have gP := gA.promote hq0 nq hq3
    exact ws_retW (we_v 4 rfl (kk _ H3 _ gP ⟨q, kvs, rfl, by rw [dif_none hq0, upd_same], pmono pr fun _ _ r => ⟨r.1, r.2⟩⟩))
end
end T82

namespace T82
open PySem L2 D1 Rp
/-! ### by all panels, what is hidden, what is told -/
theorem all_take {rs : List Rd} {i : Nat} {c : Rd} (h : rs[i]? = some c) (p : Rd → Bool) : (rs.take (i + 1)).all p = ((rs.take i).all p && p c) := by
  rw [take_snoc h, List.all_append]
  simp
theorem rows_lok {ns : List Str} {rows : List (List Str)} (hn : Nm8 ns) (hpm : ∀ r ∈ rows, r.Perm ns) : ∀ r ∈ rows, Lok r := fun r hr => ⟨fun z hz => hn.lok.1 z ((hpm r hr).mem_iff.mp hz), by rw [(hpm r hr).length_eq]; exact hn.lok.2⟩
/-- growth, and a caught error that stands -/
theorem gr_caught {G H G1 H1 G2 : Hp} {dx a : Addr} {o : HO} (g : Gr G H G1 H1) (h0 : H dx = none) (ha : H1 a = none) (s1 : Same G1 G2) (s2 : Same G2 (upd H1 a o)) (k : ∀ b, G1 b = none → b ≠ dx → b ≠ a → G2 b = none) : Gr G H G2 (upd H1 a o) := by
  have ha0 : H a = none := g.fresh ha
  refine ⟨g.g.trans s1, fun b u n e => ?_, s2, fun b n e => k b (g.f b n e) (fun z => e (by rw [z]; exact h0)) fun z => e (by rw [z]; exact ha0), fun b e => upd_some (g.d b e)⟩
  rw [upd_ne (ne_of_none e ha0)]
  exact g.h b u n e
def fitI (ns : List Str) (rs : List Rd) : List (List (List Str)) := (allPanelsF ns).filter fun rows => rs.all fun r => decide (cardsF rows r.1 = r.2)
theorem fit_snoc {ns : List Str} {rs : List Rd} {i : Nat} {c : Rd} (h : rs[i]? = some c) : (fitI ns (rs.take i)).filter (fun rows => decide (cardsF rows c.1 = c.2)) = fitI ns (rs.take (i + 1)) := by
  unfold fitI
  rw [List.filter_filter]
  refine congrArg (fun p => List.filter p (allPanelsF ns)) (funext fun rows => ?_)
  rw [all_take h, Bool.and_comm]
theorem panels_ok {ns : List Str} {rs : List Rd} {rows : List (List Str)} (hn : Nm8 ns) (h3 : ns.length ≤ 3) (h : rows ∈ fitI ns rs) : (∀ r ∈ rows, Lok r) ∧ rows.length < 64 := by
  obtain ⟨h1, _⟩ := drop1_subs.mp (List.mem_filter.mp h).1
  have s := subs_sub _ _ h1
  have h6 := allRows_six hn.nodup h3
  refine ⟨fun r hr => ?_, Nat.lt_of_le_of_lt s.length_le (by omega)⟩
  have p := (mem_allRows hn.nodup).mp (s.subset hr)
  exact ⟨fun z hz => hn.lok.1 z (p.mem_iff.mp hz), by rw [p.length_eq]; exact hn.lok.2⟩
theorem panels_len {ns : List Str} {rs : List Rd} (hn : Nm8 ns) (h3 : ns.length ≤ 3) : (fitI ns rs).length ≤ 64 := by
  refine Nat.le_trans (List.length_filter_le _ _) ?_
  unfold allPanelsF
  rw [List.length_drop, subs_len]
  have := two_le (allRows_six hn.nodup h3)
  have e : 2 ^ 6 = 64 := rfl
  omega
section
variable {P : Program} {w : World} {K : PySem.W.Frag} {mg : Str → Option Value} {base : Heap} {f C CP CC CS : Addr} {fd : FuncData}
theorem c_law_by_all (D : C8.Def K mg "_law_by_all" sLawByAll f fd) (b : Binds K fd ["names", "rounds", "field"] []) (cA : C8.Cal P w K mg base 2 "_law_all_panels" (P1 (fun ns => (Lok ns ∧ ns.length ≤ 3) ∧ ns.Nodup) allPanelsF) []) (cC : C8.Cal P w K mg base 1 "_law_cards" (P2 (fun rows fl => (∀ r ∈ rows, Lok r) ∧ rows.length < 64 ∧ Lok fl) cardsF) []) :
    C8.Cal P w K mg base 3 "_law_by_all" PAll [] := by
  refine C8.cal0 D b .nil scLawByAll (fun vs H Q E ⟨G, u, v, z, ns, rs, f, e, _⟩ => by rw [e]; rfl) fun cdv A outer s H vs Q E hr ⟨G, u, v, z, ns, rs, fl, ev, sG, r1, r2, r3, hn, h3, rok, hf, kk⟩ => ?_
  subst ev
  refine ⟨_, pss_ws, ?_⟩
  have hs := hf.sub hn
  have a6 : sizeLine = 16777216 := rfl
  have e0 : fitI ns (rs.take 0) = allPanelsF ns := by
    unfold fitI
    rw [List.take_zero]
    exact List.filter_eq_self.mpr fun _ _ => rfl
  have l0 := panels_len (rs := rs.take 0) hn h3
  rw [e0] at l0
  refine ws_asgMap 3 4 (f := fun r : List (List Str) => r) (Same.refl _) sG (EI.list (Ev.call1 (f := allPanelsF) cA hr (Ev.v 0 rfl r1) ⟨⟨hn.lok, h3⟩, hn.nodup⟩)) (fun d hd G' v' s1 r' s H C cl fp => Ev.v 4 rfl r') (by omega) scLawByAll.nd (blkOk_by (N := nLawByAll) (sc := C8.fnScope sLawByAll) (by decide +kernel)) (fun G1 H1 fw g1 rf => ?_)
  rw [List.map_id', ← e0] at rf
  refine ws_for (fun i σ' G' H' => ∃ fw t4 t5 t6 t7 t8, σ' = [some u, some v, some z, some fw, t4, t5, t6, t7, t8] ∧ Gr G H G' H' ∧ rp G' fw (fitI ns (rs.take i)))
    (G := G1) (Same.refl _) g1.s (EI.list (Ev.v 1 rfl (rup g1.g r2))) tgB1 (pg_name (i := 5) scLawByAll.nd rfl (by first | exact Or.inl rfl | exact Or.inr rfl))
    (fun G3 H3 g3 => ⟨fw, none, none, none, none, none, rfl, g1.trans g3, rup g3.g rf⟩) ?_ ?_ PassesOwn.never
  · rintro i c σ1 G3 H3 hc s23 s33 ⟨fw, t4, t5, t6, t7, t8, rfl, gA, rf⟩ G4 H4 σ2 g4 ⟨cw, rc, rfl⟩
    have hcl := rok.lok c (List.mem_of_getElem? hc)
    refine ws_asgSel 3 4 (t := fun rows : List (List Str) => decide (cardsF rows c.1 = c.2)) (Same.refl _) g4.s (EI.list (Ev.v 3 rfl (rup g4.g rf))) (fun rows hrows G' v' s' r' s H C2 cl fp => by
      have hp := panels_ok hn h3 hrows
      exact ET.eqD hr.units (Ev.call2 (f := cardsF) (a := rows) (b := c.1) cC hr (Ev.v 4 rfl r') (Ev.ix20 (Ev.v 5 rfl (rup s' rc))) ⟨hp.1, hp.2, hcl.1⟩) (Ev.ix21 (Ev.v 5 rfl (rup s' rc))) (cards_lay hcl.1) hcl.2.lay) (fun G5 H5 ow g5 ro => ?_) (Nat.lt_of_le_of_lt (panels_len hn h3) (by decide)) scLawByAll.nd (blkOk_by (N := nLawByAll) (sc := C8.fnScope sLawByAll) (by decide +kernel))
    rw [fit_snoc hc] at ro
    exact ws_nil ⟨G5, g5.g, g5.s, ow, _, _, _, _, _, rfl, (gA.trans g4).trans g5, ro⟩
  · rintro σ1 G3 H3 s23 s33 ⟨fw, t4, t5, t6, t7, t8, rfl, gA, rf⟩
    rw [List.take_length] at rf
    refine ws_asgW 6 (we_dict00 fun q hq => ?_) scLawByAll.nd
    have gq := s33.free hq
    have hq0 := gA.fresh hq
    have g02 := gA.off (o := .dK []) hq0 gq
    refine ws_for (fun i σ' G' H' => ∃ kvs t4 t7 t8, σ' = [some u, some v, some z, some fw, t4, t5, some (.ref q), t7, t8] ∧ Gr G H G' H' ∧ G' q = none ∧ H' q = some (.dK kvs) ∧ Paired (KvR G') kvs ((fl.take i).map fun n => (n, allWord ns rs fl n)) ∧ Same G3 G')
      (G := G3) (Same.refl _) g02.s (EI.list (Ev.v 2 rfl (rup gA.g r3))) tgB1 (pg_name (i := 7) scLawByAll.nd rfl (by first | exact Or.inl rfl | exact Or.inr rfl))
      (fun G4 H4 g4 => ⟨[], _, _, _, rfl, g02.trans g4, g4.f q gq (by rw [upd_same]; exact fun z => nomatch z), g4.hh _ _ upd_same, .nil, g4.g⟩) ?_ ?_ PassesOwn.never
    · rintro i c σ1 G4 H4 hc s34 s44 ⟨kvs, t4, t7, t8, rfl, gB, nq, hq3, pr, sA⟩ G5 H5 σ2 g5 ⟨cw, rc, rfl⟩
      have hm : c ∈ fl := List.mem_of_getElem? hc
      have sB := sA.trans g5.g
      refine ws_asgMap 8 4 (f := fun rows : List (List Str) => decide (c ∈ cardsF rows fl)) (Same.refl _) g5.s (EI.list (Ev.v 3 rfl (rup sB rf))) (fun rows hrows G' v' s' r' s H C2 cl fp => by
        have hp := panels_ok hn h3 hrows
        exact Ev.inD hr.units65 (Ev.v 7 rfl (rup s' rc)) (Ev.call2 (f := cardsF) (a := rows) (b := fl) cC hr (Ev.v 4 rfl r') (Ev.v 2 rfl (rup ((gA.g.trans sB).trans s') r3)) ⟨hp.1, hp.2, hs.lok⟩) (hs.lok.1 c hm).2 (cards_lay hs.lok)) (Nat.lt_of_le_of_lt (panels_len hn h3) (by decide)) scLawByAll.nd (blkOk_by (N := nLawByAll) (sc := C8.fnScope sLawByAll) (by decide +kernel)) (fun G6 H6 sw g6 rs6 => ?_)
      have e1 : (fitI ns rs).map (fun rows => decide (c ∈ cardsF rows fl)) = allSome ns rs fl c := rfl
      rw [e1] at rs6
      have lb : ∀ l : List Bool, Da.lay l := fun l a _ => trivial
      refine ws_dput hr.units1 (Ev.ap (a := allWord ns rs fl c) g6.s (Ev.eq (Ev.ite (z := ("card" : Str)) (z' := if decide (true ∈ allSome ns rs fl c) = true then ("open" : Str) else "none") (ET.niD hr.units65 (Ev.bl (i := false)) (Ev.v 8 rfl rs6) trivial (lb _)) (fun _ => Ev.str) fun _ => Ev.ite (ET.inD hr.units65 (Ev.bl (i := true)) (Ev.v 8 rfl rs6) trivial (lb _)) (fun _ => Ev.str) fun _ => Ev.str) rfl) fun G7 H7 ww g7 rw7 => ?_)
      have g47 := (g5.trans g6).trans g7
      cases rc
      refine we_v 6 rfl (we_v 7 rfl ⟨q, kvs, c, rfl, rfl, g47.hh _ _ hq3, ?_, ?_⟩)
      · have e1 := pr.length
        rw [List.length_map, List.length_take] at e1
        have := hs.few
        omega
      · have gC := (gB.trans g47).off (o := .dK (putK kvs (Sum.inr c) ww)) hq0 (g47.f q nq (by rw [hq3]; exact fun z => nomatch z))
        exact ws_nil ⟨G7, (g6.trans g7).g, gC.s, _, _, _, _, rfl, gC, g47.f q nq (by rw [hq3]; exact fun z => nomatch z), upd_same, kv_more hs.nodup hc (pmono pr fun _ _ r => ⟨r.1, rup g47.g r.2⟩) rw7, sA.trans g47.g⟩
    · rintro σ1 G4 H4 s34 s44 ⟨kvs, t4, t7, t8, rfl, gB, nq, hq3, pr, sA⟩
      rw [List.take_length] at pr
      have gP := gB.promote hq0 nq hq3
      exact ws_retW (we_v 6 rfl (kk _ H4 _ gP ⟨q, kvs, rfl, upd_same, pmono pr fun _ _ r => ⟨r.1, r.2⟩⟩))
theorem c_law_hidden (D : C8.Def K mg "_law_hidden_right" sLawHiddenRight f fd) (b : Binds K fd ["rows", "rounds", "field", "told"] []) (cC : C8.Cal P w K mg base 1 "_law_cards" (P2 (fun rows fl => (∀ r ∈ rows, Lok r) ∧ rows.length < 64 ∧ Lok fl) cardsF) []) :
    C8.Cal P w K mg base 2 "_law_hidden_right" PHid [] := by
  refine C8.cal0 D b .nil scLawHiddenRight (fun vs H Q E ⟨G, u, v, z, t, ns, rows, rs, f, g, e, _⟩ => by rw [e]; rfl) fun cdv A outer s H vs Q E hr ⟨G, u, v, z, t, ns, rows, rs, fl, g, ev, sG, r1, r2, r3, r4, hn, hpm, hrl, rok, hf, hg, kk⟩ => ?_
  subst ev
  refine ⟨_, pss_ws, ?_⟩
  have hs := hf.sub hn
  have hrok := rows_lok hn hpm
  refine ws_if (Same.refl _) sG (ET.neD hr.units (Ev.lcSel 4 (t := fun r : Rd => !decide (cardsF rows r.1 = r.2)) (EI.list (Ev.v 1 rfl r2)) (fun r hr' G' v' s1 r' s H C2 cl fp => by
      have hk := rok.lok r hr'
      exact ET.neD hr.units (Ev.call2 (f := cardsF) (a := rows) (b := r.1) cC hr (Ev.v 0 rfl (rup s1 r1)) (Ev.ix20 (Ev.v 4 rfl r')) ⟨hrok, by omega, hk.1⟩) (Ev.ix21 (Ev.v 4 rfl r')) (cards_lay hk.1) hk.2.lay) (Nat.lt_of_le_of_lt rok.few (by decide)) scLawHiddenRight.nd (blkOk_by (N := nLawHiddenRight) (sc := C8.fnScope sLawHiddenRight) (by decide +kernel))) Ev.nil (fun a ha => rds_lay rok.lok a (List.mem_filter.mp ha).1) lay_nil) (fun hh G1 H1 g1 => ?_) (fun hh G1 H1 g1 => ?_)
  · have hne : ¬ (rs.filter fun r => !decide (cardsF rows r.1 = r.2)) = [] := by simpa using hh
    refine ws_ret (Same.refl _) g1.s (Ev.bl (i := true)) fun G2 H2 w2 g2 rw2 => ?_
    cases rw2
    have e : hiddenF rows rs fl g = true := by unfold hiddenF; rw [if_neg hne]
    have := kk G2 H2 (g1.trans g2)
    rw [e] at this; exact this
  · have he : (rs.filter fun r => !decide (cardsF rows r.1 = r.2)) = [] := by simpa using hh
    refine ws_nil (ws_asg 5 (d := cardsF rows fl) (Same.refl _) g1.s (Ev.call2 (f := cardsF) (a := rows) (b := fl) cC hr (Ev.v 0 rfl (rup g1.g r1)) (Ev.v 2 rfl (rup g1.g r3)) ⟨hrok, by omega, hs.lok⟩) (fun G2 H2 cw g2 rc => ?_) scLawHiddenRight.nd)
    have g02 := g1.trans g2
    refine ws_retW (Ev.ap (a := hiddenF rows rs fl g) g2.s (Ev.eq (Ev.eqD hr.units (Ev.lcSel 6 (t := fun n => !decide (g n = "open") && !decide (decide (g n = "card") = decide (n ∈ cardsF rows fl))) (EI.list (Ev.v 2 rfl (rup g02.g r3))) (fun n hn' G' v' s1 r' s H C2 cl fp => by
      have rt := rup (g02.g.trans s1) r4
      have ln := (hs.lok.1 n hn').2
      exact EW.t (EW.and (ET.neD hr.units (Ev.dget (D := (⟨fl.map fun n => (n, g n)⟩ : DctS Str)) hr.units1 (Ev.v 3 rfl rt) (Ev.v 6 rfl r') (lk_map hn')) Ev.str (hg n hn') strOk_words.2.2) fun _ => EW.and1 (ET.neD hr.units (Ev.eqD hr.units (Ev.dget (D := (⟨fl.map fun n => (n, g n)⟩ : DctS Str)) hr.units1 (Ev.v 3 rfl rt) (Ev.v 6 rfl r') (lk_map hn')) Ev.str (hg n hn') strOk_words.1) (Ev.inD hr.units65 (Ev.v 6 rfl r') (Ev.v 5 rfl (rup s1 rc)) ln (cards_lay hs.lok)) trivial trivial))) (sz64 hs.lok.2) scLawHiddenRight.nd (blkOk_by (N := nLawHiddenRight) (sc := C8.fnScope sLawHiddenRight) (by decide +kernel))) Ev.nil (fun a ha => (hs.lok.1 a (List.mem_filter.mp ha).1).2) lay_nil) (by unfold hiddenF; rw [if_pos he])) fun G3 H3 w3 g3 rw3 => ?_)
    cases rw3
    exact kk G3 H3 (g02.trans g3)
theorem c_law_told (D : C8.Def K mg "_law_told" sLawTold f fd) (b : Binds K fd ["names", "rounds", "field"] []) (B : Bt mg) (hCS : mg "ShowError" = some (.ref CS)) (hCC : mg "Clash" = some (.ref CC)) (T : ErrK K CC) (hval : PySem.W.findIn K (.ref CC) "value" = some none) (hx : PySem.W.exmOne K (.ref CC) (.ref CS) = some true) (hk : PySem.W.kitOne K (.ref CC) (.ref CC) = some true) (cV : CalX P w K mg base 13 "verdict" (PVer CC)) :
    C8.Cal P w K mg base 14 "_law_told" PTold [] := by
  refine C8.cal0 D b .nil scLawTold (fun vs H Q E ⟨G, u, v, z, ns, es, rs, e, _⟩ => by rw [e]; rfl) fun cdv A outer s H vs Q E hr ⟨G, u, v, z, ns, es, rs, ev, sG, r1, r2, h, k1, k2⟩ => ?_
  subst ev
  refine ⟨_, pss_ws, ?_⟩
  refine ws_tryAs (i := 3) (c := .ref CS) rfl rfl rfl scLawTold.nd rfl rfl ⟨rfl, by decide, .inl hCS⟩ (fun a C d D σ H => ∀ pn, WS (SX _ a pn) _ D σ H) (fun a C d pn D σ H hh => hh pn) fun pn xe tk _ => ?_
  refine ws_retW (we_callX3 cV tk hr (we_v 0 rfl (we_v 1 rfl (we_v 2 rfl ⟨G, u, v, z, ns, es, rs, rfl, sG, r1, r2, h, fun hkp => ?_, fun hkp G1 H1 dx g1 h0 gd hd => ⟨CC, rfl, hx, fun a ha pn2 => ?_⟩⟩))))
  · obtain ⟨fl, rz, hf, kk⟩ := k1 hkp
    exact ⟨fl, rz, hf, fun G1 H1 w1 g1 rw1 => kk G1 H1 w1 g1 rw1⟩
  · obtain ⟨G2, s12, s22, re, hk2, _⟩ := er_made (α := List Rd) (C := CC) (d := rs) hd ha g1.s (rup g1.g r2) gd
    have g2 := gr_caught g1 h0 ha s12 s22 hk2
    have lr : Da.lay rs := rds_lay h.2.2.lok
    refine ws_retW (Ev.ap (a := (⟨"Clash", true⟩ : M2 Str Bool)) s22 (ev_iteT (ET.val (Ev.isX (d := (⟨CC, rs⟩ : Er (List Rd))) B T hCC hk (Ev.v 3 rfl re))) (Ev.lst2 Ev.str (Ev.eq (Ev.eqD hr.units (Ev.exv (d := (⟨CC, rs⟩ : Er (List Rd))) T hval (Ev.v 3 rfl re)) (Ev.v 1 rfl (rup g2.g r2)) lr lr) (decide_eq_true rfl)))) fun G3 H3 w3 g3 r3 => k2 hkp G3 H3 w3 (g2.trans g3) r3)
end
end T82

namespace T82
open PySem L2 D1 Rp
/-! ### the great panel -/
abbrev GreatN : List Str := ["aq", "bq", "cq", "dq", "eq", "fq", "gq", "hq", "iq", "jq", "kq", "lq"]
abbrev LT12 : Str := "abcdefghijkl"
instance {l : List Str} : Decidable (SortedS l) := inferInstanceAs (Decidable (l.Pairwise fun a b => leS a b = true))
theorem great_ok : Nm8 GreatN := ⟨by decide +kernel, by decide +kernel, by decide +kernel, by decide +kernel, by decide +kernel⟩
theorem great_len : GreatN.length = 12 := by decide +kernel
/-- rounds of few calls -/
theorem few_calls {rs : List Rd} {m : Nat} : ∀ {rs : List Rd}, (∀ r ∈ rs, r.2.length ≤ m) → (callsOf (rdLines rs)).length ≤ rs.length * m
  | [], _ => Nat.zero_le _
  | r :: rs, h => by
    have ih := few_calls (rs := rs) (m := m) fun r hr => h r (List.mem_cons_of_mem _ hr)
    have e : rdLines (r :: rs) = ((r.2.map fun n => (⟨"call", r.1, n⟩ : Ln)) ++ (r.1.filter fun n => !decide (n ∈ r.2)).map fun n => (⟨"off", r.2, n⟩ : Ln)) ++ rdLines rs := by
      unfold rdLines
      rw [List.flatMap_cons]
    have e2 : callsOf ((r.1.filter fun n => !decide (n ∈ r.2)).map fun n => (⟨"off", r.2, n⟩ : Ln)) = [] := by
      unfold callsOf
      refine filter_nil_iff.mpr fun t ht => ?_
      obtain ⟨n, _, rfl⟩ := List.mem_map.mp ht
      exact decide_eq_false fun e => call_ne_off (show ("call" : Str) = "off" from (show ("off" : Str) = "call" from e).symm)
    have e3 : (callsOf (r.2.map fun n => (⟨"call", r.1, n⟩ : Ln))).length ≤ m := by
      unfold callsOf
      refine Nat.le_trans (List.length_filter_le _ _) ?_
      rw [List.length_map]
      exact h r List.mem_cons_self
    rw [e]
    unfold callsOf at *
    rw [List.filter_append, List.filter_append, e2, List.append_nil, List.length_append, List.length_cons, Nat.succ_mul]
    omega
def GreatR (rows : List (List Str)) (r : Rd) : Prop := RdP GreatN r ∧ r.1.length ≤ 3 ∧ r.2 = cardsF rows r.1
def PGreat : Sp := fun vs H Q _ => ∃ G q, ∃ b : Int, vs = [.ref q] ∧ Same G H ∧ Purse q b G H ∧ b < 2 ^ 34 ∧
  ∀ G' H' L nw rw fw (rows : List (List Str)) (rs : List Rd), GrM (Mq q) G H G' H' → H' L = some (.lst [nw, rw, fw]) → rp G' nw GreatN → rp G' rw rows → rp G' fw rs → (∀ r ∈ rows, r.Perm GreatN) → rows ≠ [] → rows.length ≤ 2 → rs.length = 12 → (∀ r ∈ rs, GreatR rows r) → Q (.ref L) H'
section
variable {P : Program} {w : World} {K : PySem.W.Frag} {mg : Str → Option Value} {base : Heap} {f C CP : Addr} {fd : FuncData}
theorem c_law_great (D : C8.Def K mg "_law_great_seen" sLawGreatSeen f fd) (b : Binds K fd ["purse"] []) (B : Bt mg) (cD : C8.Cal P w K mg base 2 "_law_draw" PDraw []) (cS : C8.Cal P w K mg base 3 "_law_shuffled" (PShuf Str) []) (cR : C8.Cal P w K mg base 4 "_law_rows_of" PRows [])
    (cC : C8.Cal P w K mg base 1 "_law_cards" (P2 (fun rows fl => (∀ r ∈ rows, Lok r) ∧ rows.length < 64 ∧ Lok fl) cardsF) []) : C8.Cal P w K mg base 5 "_law_great_seen" PGreat [] := by
  refine C8.cal0 D b .nil scLawGreatSeen (fun vs H Q E h => ?_) fun cdv A outer s H vs Q E hr h => ?_
  · obtain ⟨G, q, b', rfl, _⟩ := h
    rfl
  · obtain ⟨G, q, b', rfl, sG, pq, hb, kk⟩ := h
    refine ⟨_, pss_ws, ?_⟩
    have a6 : sizeLine = 16777216 := rfl
    have hn := great_ok
    have e12 : (signs LT12).map (fun s : Str => s ++ ("q" : Str)) = GreatN := by decide +kernel
    have one : ∀ s ∈ signs LT12, s.length ≤ 1 := by decide +kernel
    refine ws_asgMap 1 2 (f := fun s : Str => s ++ ("q" : Str)) (Same.refl _) sG (EI.str (z := LT12) Ev.str) (fun d hd G' v' s1 r' s H C cl fp => Ev.addS (Ev.v 2 rfl r') Ev.str (by have h1 := one d hd; have h2 : ("q" : Str).length = 1 := (by decide +kernel); omega)) (by rw [show (signs LT12).length = 12 from by decide +kernel]; decide) scLawGreatSeen.nd (blkOk_by (N := nLawGreatSeen) (sc := C8.fnScope sLawGreatSeen) (by decide +kernel)) (fun G1 H1 nw g1 rn => ?_)
    rw [e12] at rn
    have p1 := pq.gr g1
    refine WS.cons (ps_par (i := 3) (j := 4) rfl scLawGreatSeen.nd rfl rfl (by decide) rfl rfl (pa_cons pe_we (pa_cons pe_we pa_nil)) rfl) ?_
    refine we_call3 cR hr (we_v 0 rfl (we_v 1 rfl (we_op op_add (Ev.ap g1.s (Ev.int (i := 1)) fun G2 H2 v2 g2 r2 => ?_))))
    cases r2
    refine we_call2 cD hr (we_v 0 rfl (Ev.ap g2.s (Ev.int (i := 2)) fun G3 H3 v3 g3 r3 => ?_))
    cases r3
    refine ⟨G3, q, 2, _, rfl, g3.s, (p1.gr g2).gr g3, by decide, by decide, by omega, fun G4 H4 y g4 p4 y0 y2 => ⟨1, y, rfl, rfl, ?_⟩⟩
    have ey : (1 + y : Int) = ((1 + y).toNat : Nat) := by rw [Int.toNat_of_nonneg (by omega)]
    have g24 := (g2.trans g3).any.trans g4
    refine ⟨G4, q, nw, GreatN, (1 + y).toNat, _, by show [V.ref q, nw, V.int (1 + y)] = [V.ref q, nw, V.int (((1 + y).toNat : Nat) : Int)]; rw [← ey], g4.s, p4, rup g24.g rn, hn, by omega, by omega, fun G5 H5 rw5 rows g5 p5 hrl hpm rr => ?_⟩
    have hne : rows ≠ [] := fun e => by rw [e] at hrl; simp at hrl; omega
    have hrl2 : rows.length ≤ 2 := by omega
    have hrlk := rows_lok hn hpm
    refine we_lstM (xs := ([] : List Rd)) g5.s EL.nil (fun G6 H6 vs fo g6 hfo pr => ?_) (show 0 ≤ 1000 by decide)
    cases pr
    refine ⟨rw5, .ref fo, rfl, ?_⟩
    have g05 : GrM (Mq q) G H G5 H5 := (g1.any.trans g24).trans g5
    have hfo0 : H fo = none := g05.fresh (g6.fresh hfo)
    have p6 := p5.gr g6
    have qfo : q ≠ fo := fun e => by subst e; exact pq.some hfo0
    have gfo6 := g6.s.free hfo
    have g06 := (g05.trans g6.any).off (o := .lst []) hfo0 gfo6
    have rn6 := rup (g24.g.trans (g5.g.trans g6.g)) rn
    have rr6 := rup g6.g rr
    have hup : (upto ((12 : Nat) : Int).toNat).length = 12 := by simp [upto]
    refine ws_for (fun i σ' G' H' => ∃ acc t5 t6, ∃ l' : List Rd, σ' = [some (.ref q), some nw, none, some rw5, some (.ref fo), t5, t6] ∧ GrM (Mq q) G H G' H' ∧ Same G6 G' ∧ Purse q (b' + 200 + 20 * (i : Nat)) G' H' ∧ G' fo = none ∧ H' fo = some (.lst acc) ∧ Paired (rp G') acc l' ∧ l'.length = i ∧ ∀ t ∈ l', GreatR rows t)
      (G := G6) (Same.refl _) g06.s (EI.range1 B.range (Ev.int (i := 12)) ⟨by decide, by decide⟩) tgB1 (pg_name (i := 5) scLawGreatSeen.nd rfl (by first | exact Or.inl rfl | exact Or.inr rfl))
      (fun G7 H7 g7 => ⟨[], none, none, [], rfl, g06.trans g7.any, g7.g, ((p6.off qfo).gr g7).le (by omega), g7.f fo gfo6 (by rw [upd_same]; exact fun z => nomatch z), g7.hh _ _ upd_same, .nil, rfl, fun t ht => by cases ht⟩) ?_ ?_ PassesOwn.never
    · rintro i c σ1 G7 H7 hc s67 s77 ⟨acc, t5, t6, l', rfl, gA, sA, p7, nf, hf, pr, hl', hg'⟩ G8 H8 σ2 g8 ⟨lw, rl, rfl⟩
      have hi : i < 12 := by rw [← hup]; exact (List.getElem?_eq_some_iff.mp hc).1
      have nf8 := g8.f fo nf (by rw [hf]; exact fun z => nomatch z)
      have hf8 := g8.hh _ _ hf
      have s68 := sA.trans g8.g
      refine ws_asgW 6 (we_sortedS B (we_slToI (α := Str) (we_call2 cS hr (we_v 0 rfl (we_v 1 rfl ?_))))) scLawGreatSeen.nd
      refine ⟨G8, q, nw, GreatN, _, rfl, g8.s, p7.gr g8, rup s68 rn6, by rw [great_len]; decide, by omega, fun G9 H9 sw sl g9 p9 sp rs => ?_⟩
      rw [great_len] at p9
      refine we_op op_add (Ev.ap g9.s (Ev.int (i := 2)) fun G10 H10 v10 g10 r10 => ?_)
      cases r10
      refine we_call2 cD hr (we_v 0 rfl (Ev.ap g10.s (Ev.int (i := 2)) fun G11 H11 v11 g11 r11 => ?_))
      cases r11
      refine ⟨G11, q, 2, _, rfl, g11.s, (p9.gr g10).gr g11, by decide, by decide, by omega, fun G12 H12 z g12 p12 z0 z2 => ⟨2, z, rfl, rfl, G12, sl, 2 + z, rfl, g12.s, rup ((g10.trans g11).g.trans g12.g) rs, fun G13 H13 w13 g13 r13 => ?_⟩⟩
      have ez : (2 + z : Int) = ((2 + z).toNat : Nat) := by rw [Int.toNat_of_nonneg (by omega)]
      rw [ez, cutL_to] at r13
      have hcut : (2 + z).toNat ≤ 3 := by omega
      refine ⟨G13, _, g13.s, r13, by rw [List.length_take]; omega, fun p hp => ?_⟩
      have gn := Gr.new (o := .lst ((sortS (sl.take (2 + z).toNat)).map V.str)) g13.s hp
      have hfl : Part (sortS (sl.take (2 + z).toNat)) GreatN := part_cut sp hn (by omega)
      have hfl3 : (sortS (sl.take (2 + z).toNat)).length ≤ 3 := by rw [sortS_length, List.length_take]; omega
      have rf14 : rp (upd G13 p (.lst ((sortS (sl.take (2 + z).toNat)).map V.str))) (.ref p) (sortS (sl.take (2 + z).toNat)) := ⟨p, _, rfl, upd_same, strs_to _⟩
      have p14 := (p12.gr g13).gr gn
      have g814 : GrM (Mq q) G8 H8 _ _ := (((g9.trans (g10.trans g11).any).trans g12).trans g13.any).trans gn.any
      generalize sortS (sl.take (2 + z).toNat) = fl at gn hfl hfl3 rf14 p14 g814
      generalize upd G13 p (.lst (fl.map V.str)) = G14 at gn rf14 p14 g814
      generalize upd H13 p (.lst (fl.map V.str)) = H14 at gn p14 g814
      have hf14 : H14 fo = some (.lst acc) := g814.h fo _ (fun e => qfo e.symm) hf8
      have nf14 := g814.f fo nf8 (by rw [hf8]; exact fun z => nomatch z)
      have s614 := s68.trans g814.g
      refine ws_exprW (WE.of (pe_bm PySem.F.plainAttrs_list PySem.F.slot_list_append PySem.F.type_list_append mt_append (pv 4) (pa_cons pe_we pa_nil)) ?_)
      refine ⟨.ref fo, rfl, .inl ⟨rfl, _, SqL.of hf14⟩, Ev.ap (a := (fl, cardsF rows fl)) gn.s (Ev.tup2 (Ev.v 6 rfl rf14) (Ev.call2 (f := cardsF) cC hr (Ev.v 3 rfl (rup s614 rr6)) (Ev.v 6 rfl rf14) ⟨hrlk, by omega, (hfl.sub hn).lok⟩)) fun G15 H15 tw g15 rt => ?_⟩
      have hf15 := g15.hh _ _ hf14
      have nf15 := g15.f fo nf14 (by rw [hf14]; exact fun z => nomatch z)
      have hal : acc.length = i := pr.length.trans hl'
      refine ⟨fo, acc, tw, rfl, rfl, hf15, by rw [hal]; omega, ?_⟩
      have gE := (((gA.trans g8.any).trans g814).trans g15.any).off (o := .lst (acc ++ [tw])) hfo0 nf15
      refine ws_nil ⟨G15, g814.g.trans g15.g, gE.s, _, some lw, some (.ref p), l' ++ [(fl, cardsF rows fl)], rfl, gE, s614.trans g15.g, ((p14.gr g15).off qfo).le (by omega), nf15, upd_same, r2_cat.PairedAppend (pmono pr fun _ _ => rup ((g8.g.trans g814.g).trans g15.g)) (.cons rt .nil), by rw [List.length_append, hl']; rfl, fun t ht => ?_⟩
      rcases List.mem_append.mp ht with ht | ht
      · exact hg' t ht
      · rw [List.mem_singleton.mp ht]
        exact ⟨⟨hfl, cards_part hpm hne hfl⟩, hfl3, rfl⟩
    · rintro σ1 G7 H7 s67 s77 ⟨acc, t5, t6, l', rfl, gA, sA, p7, nf, hf, pr, hl', hg'⟩
      have hl' : l'.length = 12 := hl'
      refine ws_retW (we_lst3 (we_v 1 rfl (we_v 3 rfl (we_v 4 rfl fun L hL => ?_))))
      have gP := gA.promote hfo0 nf hf
      have gn := Gr.newM (o := .lst [nw, rw5, .ref fo]) gP.s hL
      have sU := same_new (o := .lst acc) nf
      exact kk _ _ L nw rw5 (.ref fo) rows l' (gP.trans gn.any) upd_same (rup (sA.trans sU) rn6) (rup (sA.trans sU) rr6) ⟨fo, acc, rfl, upd_same, pmono pr fun _ _ => rup sU⟩ hpm hne hrl2 hl' hg'
end
/-! ### what the law's turn needs -/
instance {α β : Type} [DecidableEq α] [DecidableEq β] : DecidableEq (M2 α β) := fun a b => match a, b with
  | ⟨a1, a2⟩, ⟨b1, b2⟩ => if h : a1 = b1 ∧ a2 = b2 then isTrue (by rw [h.1, h.2]) else isFalse fun e => h ⟨congrArg M2.a e, congrArg M2.b e⟩
instance {α β : Type} [Rp α] [Rp β] [Da α] [Da β] [DecidableEq α] [DecidableEq β] [De α] [De β] : De (M2 α β) := ⟨fun a b => by
  obtain ⟨a1, a2⟩ := a
  obtain ⟨b1, b2⟩ := b
  show PyData.eqv (.list [Da.toD a1, Da.toD a2]) (.list [Da.toD b1, Da.toD b2]) = _
  simp only [PyData.eqv, PyData.eqvAll, De.eqv, Bool.and_true, M2.mk.injEq, Bool.decide_and]⟩
theorem cost_nm {l : List Str} (h : Nm8 l) : Sh.cost l ≤ 1100 := by
  show (l.map fun a => Sh.cost a + 2).sum + 2 ≤ _
  have h1 := sum_le (fun a : Str => Sh.cost a + 2) 84 l fun z hz => by
    show 10 * z.length + 2 + 2 ≤ _
    have := (isName_at (h.names z hz)).2.1
    omega
  have := h.few
  omega
theorem cost_rds {ns : List Str} {rs : List Rd} (hn : Nm8 ns) (h : ∀ r ∈ rs, RdP ns r) (hl : rs.length ≤ 8) : Sh.cost (M2.mk ns rs) ≤ sizeLine := by
  have a6 : sizeLine = 16777216 := rfl
  have h0 := cost_nm hn
  show Sh.cost ns + ((rs.map fun a => Sh.cost a + 2).sum + 2) + 6 ≤ _
  have h1 := sum_le (fun a : Rd => Sh.cost a + 2) 2400 rs fun r hr => by
    have f8 := (h r hr).1.sub hn
    have h2 := cost_nm f8
    have h3 := cost_nm ((h r hr).2.sub f8)
    show Sh.cost r.1 + Sh.cost r.2 + 6 + 2 ≤ _
    omega
  omega
theorem all_verd {ns f : List Str} {rs : List Rd} (hn : Nm8 ns) (rok : RdsOk ns rs) (k : KeptR ns rs) (hf : Part f ns) : allF ns rs f = verdF ns rs f := by
  unfold allF verdF
  exact congrArg DctS.mk (List.map_congr_left fun n h => by rw [by_all hn rok k hf h])
theorem hidden_true {ns f : List Str} {rows : List (List Str)} {rs : List Rd} (hn : Nm8 ns) (rok : RdsOk ns rs) (k : KeptR ns rs) (hf : Part f ns) (hpm : ∀ r ∈ rows, r.Perm ns) (hne : rows ≠ []) : hiddenF rows rs f (wordF ns (toldL rs) f) = true := by
  unfold hiddenF
  by_cases he : (rs.filter fun r => !decide (cardsF rows r.1 = r.2)) = []
  · rw [if_pos he]
    have hft : Fits ns rs rows := ⟨hne, hpm, fun r hr => by
      have := (filter_nil_iff.mp he) r hr
      simpa using this⟩
    refine decide_eq_true (filter_nil_iff.mpr fun n hm => ?_)
    rcases word_is hn rok k hf hm with ⟨e, hw⟩ | ⟨e, hw⟩ | ⟨e, _⟩
    · rw [e, decide_eq_true (hw rows hft)]
      simp
    · rw [e, decide_eq_false (hw rows hft), decide_eq_false (show ¬ ("none" : Str) = "card" from fun z => cn1 z.symm)]
      simp
    · rw [e]; simp
  · rw [if_neg he]
theorem gr_rm {M : Addr → Prop} {G H G' H' : Hp} {p : Addr} {o : HO} (s : Same G H) (g : GrM M G H G' H') (h0 : H p = none) : GrM M G H (rm G' p) (upd H' p o) := by
  have ne : ∀ {b : Addr} {u : HO}, H b = some u → b ≠ p := fun e z => by rw [z, h0] at e; cases e
  refine ⟨fun b u e => ?_, fun b u n e => by rw [upd_ne (ne e)]; exact g.h b u n e, fun b u e => ?_, fun b n e => ?_, fun b e => upd_some (g.d b e)⟩
  · unfold rm
    rw [if_neg (ne (s b u e))]; exact g.g _ _ e
  · unfold rm at e
    split at e
    · cases e
    · rename_i hb
      rw [upd_ne hb]; exact g.s b u e
  · unfold rm
    split
    · rfl
    · exact g.f b n e
theorem isi_dict : kitB "dict" "dict" = some true := by decide +kernel
theorem Ev.isiDict {β : Type} [Rp β] {X : Cx} {e : Expr} {σ : L2.St} {G : Hp} {p q pos : Pos} {d : DctS β} (B : Bt X.mg) (h : Ev X e σ G d) (hg : Gl X "isinstance" := by rfl) (hgx : Gl X "dict" := by rfl) (hs : starEach [e, .Name "dict" q] X.env = (false, eval e X.env) :: starEach [.Name "dict" q] X.env := by rfl) (hs2 : starEach [.Name "dict" q] X.env = (false, eval (.Name "dict" q) X.env) :: starEach [] X.env := by rfl) (hpl : (backTo pos (starEach [.Name "dict" q] X.env)).any (·.1) = false := by rfl) :
    Ev X (.Call (.Name "isinstance" p) [e, .Name "dict" q] [] pos) σ G true := Ev.isi (x := "dict") B B.dict boot_dict' isi_dict h hg hgx (by decide) (by decide) hs hs2 hpl
/-- the verdict, where some panel fits -/
def PVer0 : Sp := fun vs H Q _ => ∃ G u v z ns es rs f, vs = [u, v, z] ∧ Same G H ∧ rp G u es ∧ rp G v rs ∧ rp G z f ∧ VerOk ns es rs ∧ KeptR ns rs ∧ Part f ns ∧ ∀ G' H' w, Gr G H G' H' → rp (dif G' H) w (verdF ns rs f) → Q w H'
theorem ver0 {CC : Addr} : ∀ vs H Q E, PVer0 vs H Q E → PVer CC vs H Q fun _ _ _ => False := fun vs H Q E ⟨G, u, v, z, ns, es, rs, f, e, s, r1, r2, r3, h, k, hf, kk⟩ =>
  ⟨G, u, v, z, ns, es, rs, e, s, r1, r2, h, fun _ => ⟨f, r3, hf, kk⟩, fun hk => absurd k hk⟩
theorem kv_any {G G' : Hp} {kvs : List (Key × V)} {l : List (Str × Str)} (h : Paired (KvR G) kvs l) : Paired (KvR G') kvs l := pmono h fun _ _ r => ⟨r.1, r.2⟩
end T82

namespace T82
open PySem L2 D1 Rp
/-! ### the law's turn -/
section
variable {P : Program} {w : World} {K : PySem.W.Frag} {mg : Str → Option Value} {base : Heap} {f C CP : Addr} {fd : FuncData}
theorem ver_call {X : Cx} {σ : L2.St} {G : Hp} {a b c : Expr} {p pos : Pos} {ns es : List Str} {rs : List Rd} {fl : List Str} (cV : C8.Cal X.prog X.w X.K X.mg X.base 13 "verdict" PVer0 []) (hr : Room 14 X.A) (h1 : Ev X a σ G es) (h2 : Ev X b σ G rs) (h3 : Ev X c σ G fl) (h : VerOk ns es rs) (k : KeptR ns rs) (hf : Part fl ns) (hg : Gl X "verdict" := by rfl)
    (hs : starEach [a, b, c] X.env = (false, eval a X.env) :: starEach [b, c] X.env := by rfl) (hs2 : starEach [b, c] X.env = (false, eval b X.env) :: starEach [c] X.env := by rfl) (hs3 : starEach [c] X.env = (false, eval c X.env) :: starEach [] X.env := by rfl) (hpl : (backTo pos (starEach [b, c] X.env)).any (·.1) = false := by rfl) :
    EvF X (.Call (.Name "verdict" p) [a, b, c] [] pos) σ G (verdF ns rs fl) := fun G1 H1 Q s1 s2 k4 =>
  we_call3 cV hr (Ev.ap s2 (h1.up s1) fun G2 H2 u g2 r2 => Ev.ap g2.s (h2.up (s1.trans g2.g)) fun G3 H3 v g3 r3 => Ev.ap g3.s (h3.up (s1.trans (g2.trans g3).g)) fun G4 H4 z g4 r4 =>
    ⟨G4, u, v, z, ns, es, rs, fl, rfl, g4.s, rup (g3.trans g4).g r2, rup g4.g r3, r4, h, k, hf, fun G5 H5 w5 g5 r5 => k4 G5 H5 w5 (((g2.trans g3).trans g4).trans g5) (rup ((g2.trans g3).trans g4).difs r5)⟩) (by decide) hg (by decide) hs hs2 hs3 hpl
theorem lv_call {X : Cx} {σ : L2.St} {G : Hp} {a b c : Expr} {p pos : Pos} {ns : List Str} {rs : List Rd} {fl : List Str} (cV : C8.Cal X.prog X.w X.K X.mg X.base 4 "_law_verdict" PLV []) (hr : Room 14 X.A) (h1 : Ev X a σ G ns) (h2 : Ev X b σ G rs) (h3 : Ev X c σ G fl) (hn : Nm8 ns) (rok : RdsOk ns rs) (hf : Part fl ns) (hg : Gl X "_law_verdict" := by rfl)
    (hs : starEach [a, b, c] X.env = (false, eval a X.env) :: starEach [b, c] X.env := by rfl) (hs2 : starEach [b, c] X.env = (false, eval b X.env) :: starEach [c] X.env := by rfl) (hs3 : starEach [c] X.env = (false, eval c X.env) :: starEach [] X.env := by rfl) (hpl : (backTo pos (starEach [b, c] X.env)).any (·.1) = false := by rfl) :
    EvF X (.Call (.Name "_law_verdict" p) [a, b, c] [] pos) σ G (verdF ns rs fl) := fun G1 H1 Q s1 s2 k4 =>
  we_call3 cV hr (Ev.ap s2 (h1.up s1) fun G2 H2 u g2 r2 => Ev.ap g2.s (h2.up (s1.trans g2.g)) fun G3 H3 v g3 r3 => Ev.ap g3.s (h3.up (s1.trans (g2.trans g3).g)) fun G4 H4 z g4 r4 =>
    ⟨G4, u, v, z, ns, rs, fl, rfl, g4.s, rup (g3.trans g4).g r2, rup g4.g r3, r4, hn, rok, hf, fun G5 H5 w5 g5 r5 => k4 G5 H5 w5 (((g2.trans g3).trans g4).trans g5) (rup ((g2.trans g3).trans g4).difs r5)⟩) (by decide) hg (by decide) hs hs2 hs3 hpl
theorem all_call {X : Cx} {σ : L2.St} {G : Hp} {a b c : Expr} {p pos : Pos} {ns : List Str} {rs : List Rd} {fl : List Str} (cV : C8.Cal X.prog X.w X.K X.mg X.base 3 "_law_by_all" PAll []) (hr : Room 14 X.A) (h1 : Ev X a σ G ns) (h2 : Ev X b σ G rs) (h3 : Ev X c σ G fl) (hn : Nm8 ns) (hl : ns.length ≤ 3) (rok : RdsOk ns rs) (hf : Part fl ns) (hg : Gl X "_law_by_all" := by rfl)
    (hs : starEach [a, b, c] X.env = (false, eval a X.env) :: starEach [b, c] X.env := by rfl) (hs2 : starEach [b, c] X.env = (false, eval b X.env) :: starEach [c] X.env := by rfl) (hs3 : starEach [c] X.env = (false, eval c X.env) :: starEach [] X.env := by rfl) (hpl : (backTo pos (starEach [b, c] X.env)).any (·.1) = false := by rfl) :
    Ev X (.Call (.Name "_law_by_all" p) [a, b, c] [] pos) σ G (allF ns rs fl) := fun G1 H1 Q s1 s2 k4 =>
  we_call3 cV hr (Ev.ap s2 (h1.up s1) fun G2 H2 u g2 r2 => Ev.ap g2.s (h2.up (s1.trans g2.g)) fun G3 H3 v g3 r3 => Ev.ap g3.s (h3.up (s1.trans (g2.trans g3).g)) fun G4 H4 z g4 r4 =>
    ⟨G4, u, v, z, ns, rs, fl, rfl, g4.s, rup (g3.trans g4).g r2, rup g4.g r3, r4, hn, hl, rok, hf, fun G5 H5 w5 g5 r5 => k4 G5 H5 w5 (((g2.trans g3).trans g4).trans g5) r5⟩) (by decide) hg (by decide) hs hs2 hs3 hpl
theorem hid_call {X : Cx} {σ : L2.St} {G : Hp} {a b c d : Expr} {p pos : Pos} {ns : List Str} {rows : List (List Str)} {rs : List Rd} {fl : List Str} (cH : C8.Cal X.prog X.w X.K X.mg X.base 2 "_law_hidden_right" PHid []) (hr : Room 14 X.A) (h1 : Ev X a σ G rows) (h2 : Ev X b σ G rs) (h3 : Ev X c σ G fl) (h4 : Ev X d σ G (verdF ns rs fl)) (hn : Nm8 ns) (hpm : ∀ r ∈ rows, r.Perm ns) (hne : rows ≠ []) (hrl : rows.length ≤ 8) (rok : RdsOk ns rs) (k : KeptR ns rs) (hf : Part fl ns) (hg : Gl X "_law_hidden_right" := by rfl)
    (hs : starEach [a, b, c, d] X.env = (false, eval a X.env) :: starEach [b, c, d] X.env := by rfl) (hs2 : starEach [b, c, d] X.env = (false, eval b X.env) :: starEach [c, d] X.env := by rfl) (hs3 : starEach [c, d] X.env = (false, eval c X.env) :: starEach [d] X.env := by rfl) (hs4 : starEach [d] X.env = (false, eval d X.env) :: starEach [] X.env := by rfl) (hpl : (backTo pos (starEach [b, c, d] X.env)).any (·.1) = false := by rfl) :
    Ev X (.Call (.Name "_law_hidden_right" p) [a, b, c, d] [] pos) σ G true := fun G1 H1 Q s1 s2 k4 =>
  we_call4 cH hr (Ev.ap s2 (h1.up s1) fun G2 H2 u g2 r2 => Ev.ap g2.s (h2.up (s1.trans g2.g)) fun G3 H3 v g3 r3 => Ev.ap g3.s (h3.up (s1.trans (g2.trans g3).g)) fun G4 H4 z g4 r4 => Ev.ap g4.s (h4.up (s1.trans ((g2.trans g3).trans g4).g)) fun G5 H5 t g5 r5 =>
    ⟨G5, u, v, z, t, ns, rows, rs, fl, wordF ns (toldL rs) fl, rfl, g5.s, rup ((g3.trans g4).trans g5).g r2, rup (g4.trans g5).g r3, rup g5.g r4, r5, hn, hpm, hrl, rok, hf, fun n _ => word_ok, fun G6 H6 g6 => by
      rw [hidden_true hn rok k hf hpm hne]
      exact k4 G6 H6 _ ((((g2.trans g3).trans g4).trans g5).trans g6) rfl⟩) (by decide) hg (by decide) hs hs2 hs3 hs4 hpl
theorem strOk_clash : PyData.strOk ("Clash" : Str) = true := by decide +kernel
set_option maxHeartbeats 16000000 in
/-- one field -/
theorem law_field (B : Bt mg) (cS : C8.Cal P w K mg base 3 "_law_shuffled" (PShuf Str) []) (cD : C8.Cal P w K mg base 2 "_law_draw" PDraw []) (cT : C8.Cal P w K mg base 14 "_law_told" PTold []) (cLV : C8.Cal P w K mg base 4 "_law_verdict" PLV []) (cH : C8.Cal P w K mg base 2 "_law_hidden_right" PHid []) (cA : C8.Cal P w K mg base 3 "_law_by_all" PAll []) (cV : C8.Cal P w K mg base 13 "verdict" PVer0 [])
    {cdv : Value} {A : Around} {outer : List Env} {s : Shared} {Hs : Hp} {E : XK} (hr : Room 14 (BX P w K mg base nLaw "law" sLaw f cdv A outer s Hs E).A)
    {Dn : Ends} {G0 H0 : Hp} {q : Addr} {b' : Int} {v nw rw rv lw ow fw : V} {t9 t10 t11 : Option V} {ns : List Str} {rows : List (List Str)} {rs : List Rd} {fl : List Str} (s0 : Same G0 H0) (pq : Purse q b' G0 H0) (hb : b' < 2 ^ 33) (rn : rp G0 nw ns) (rr : rp G0 rw rows) (rd : rp G0 rv rs) (hn : Nm8 ns) (h4 : ns.length ≤ 4) (hpm : ∀ r ∈ rows, r.Perm ns) (hne : rows ≠ []) (hrl : rows.length ≤ 3) (hrd : ∀ r ∈ rs, RdP ns r) (h5 : rs.length ≤ 5)
    (rf : rp G0 fw fl) (hf : Part fl ns) {kb : Bool} (hkb : kb = true ↔ KeptR ns rs)
    (hD : ∀ t9 t10 t11 G' H', GrM (Mq q) G0 H0 G' H' → Purse q (b' + 5) G' H' → Dn.nx [some v, some (.ref q), some nw, some rw, some rv, some lw, some ow, some (.bl kb), some fw, t9, t10, t11] H' ∧ Dn.ct [some v, some (.ref q), some nw, some rw, some rv, some lw, some ow, some (.bl kb), some fw, t9, t10, t11] H') :
    WS (BX P w K mg base nLaw "law" sLaw f cdv A outer s Hs E) (match C8.fnBody sLaw with | .For _ _ (_ :: _ :: _ :: .For _ _ b _ _ :: _) _ _ :: _ => b | _ => []) Dn [some v, some (.ref q), some nw, some rw, some rv, some lw, some ow, some (.bl kb), some fw, t9, t10, t11] H0 := by
  have a6 : sizeLine = 16777216 := rfl
  have hs := hf.sub hn
  have rok : RdsOk ns rs := rds_ok hn hrd (by omega)
  refine ws_asgW 9 (we_call3 cT hr (we_call2 cS hr (we_v 1 rfl (we_v 2 rfl ⟨G0, q, nw, ns, b', rfl, s0, pq, rn, by omega, by omega, fun G1 H1 ew es g1 p1 pm re => we_v 4 rfl (Ev.ap g1.s (Ev.listOf B (Ev.v 8 rfl (rup g1.g rf))) fun G2 H2 lw2 g2 rl => ?_)⟩)))) scLaw.nd
  have p2 : Purse q (b' + 4) G2 H2 := (p1.gr g2).le (by omega)
  have g02 := g1.trans g2.any
  have vok : VerOk ns es rs := ⟨hn, pm, rok⟩
  refine ⟨G2, ew, rv, lw2, ns, es, rs, rfl, g2.s, rup g2.g re, rup g02.g rd, vok, fun hk => ⟨fl, rl, hf, fun G3 H3 tw g3 rt => ?_⟩, fun hk G3 H3 tw g3 rt => ?_⟩
  · have ek : kb = true := hkb.mpr hk
    subst ek
    obtain ⟨tq, kvs, e1, e2, e3⟩ := rt
    subst e1
    obtain ⟨tn2, tg3⟩ := dif_at e2
    have th3 := g3.s _ _ tg3
    have tn0 : H0 tq = none := g02.fresh tn2
    have rt3 : rp G3 (.ref tq) (verdF ns rs fl) := ⟨tq, kvs, rfl, tg3, kv_any e3⟩
    have g03 := g02.trans g3.any
    have p3 := p2.gr g3
    refine ws_ifF (Same.refl _) g3.s (ET.eq (ET.not (ET.val (Ev.v 7 rfl rfl))) rfl) fun G4 H4 g4 => ?_
    have g04 := g03.trans g4.any
    have th4 := g4.hh _ _ th3
    refine ws_asgW 10 (EvF.ap g4.s (lv_call cLV hr (Ev.v 2 rfl (rup g04.g rn)) (Ev.v 4 rfl (rup g04.g rd)) (Ev.v 8 rfl (rup g04.g rf)) hn rok hf) fun G5 H5 dw g5 rdu => ?_) scLaw.nd
    obtain ⟨dq, kvd, e4, e5, e6⟩ := rdu
    subst e4
    obtain ⟨dn4, dg5⟩ := dif_at e5
    have hdt : dq ≠ tq := fun z => by rw [z, th4] at dn4; cases dn4
    have rd5 : rp G5 (.ref dq) (verdF ns rs fl) := ⟨dq, kvd, rfl, dg5, kv_any e6⟩
    have rt5 := rup (g4.trans g5).g rt3
    have g05 := g04.trans g5.any
    have nk : ((verdF ns rs fl).kvs.map (·.1)).Nodup := by rw [keys_verd]; exact hs.nodup
    have lk : Da.lay (verdF ns rs fl).kvs := fun x hx => by
      obtain ⟨n, hm, rfl⟩ := List.mem_map.mp hx
      exact ⟨(hs.lok.1 n hm).2, word_ok⟩
    refine ws_ifF (Same.refl _) g5.s (ET.eq (EW.t (EW.or (ET.not (ET.val (Ev.isiDict (d := verdF ns rs fl) B (Ev.v 9 rfl rt5)))) fun _ => EW.or1 (ET.neD hr.units (Ev.items (d := verdF ns rs fl) B (Ev.v 9 rfl rt5)) (Ev.items (d := verdF ns rs fl) B (Ev.v 10 rfl rd5)) lk lk))) (by simp)) fun G6 H6 g6 => ?_
    have g06 := g05.trans g6.any
    refine ws_ifF (Same.refl _) g6.s (ET.eq (ET.not (ET.val (hid_call cH hr (Ev.v 3 rfl (rup g06.g rr)) (Ev.v 4 rfl (rup g06.g rd)) (Ev.v 8 rfl (rup g06.g rf)) (Ev.v 9 rfl (rup g6.g rt5)) hn hpm hne (by omega) rok hk hf))) rfl) fun G7 H7 g7 => ?_
    have g07 := g06.trans g7.any
    have g37 := ((g4.trans g5).trans g6).trans g7
    have g57 := g6.trans g7
    have p7 := p3.gr g37
    -- behind the test by all panels
    have fin : ∀ G8 H8, GrM (Mq q) G7 H7 G8 H8 → Purse q (b' + 5) G8 H8 → WS (BX P w K mg base nLaw "law" sLaw f cdv A outer s Hs E) (match C8.fnBody sLaw with | .For _ _ (_ :: _ :: _ :: .For _ _ (_ :: _ :: _ :: _ :: _ :: _ :: b) _ _ :: _) _ _ :: _ => b | _ => []) Dn [some v, some (.ref q), some nw, some rw, some rv, some lw, some ow, some (.bl true), some fw, some (.ref tq), some (.ref dq), t11] H8 := fun G8 H8 g8 p8 => by
      have tqq : tq ≠ q := fun z => by
        subst z
        exact p1.some (by
          have := g2.fresh tn2
          exact this)
      have th8 : H8 tq = some (.dK kvs) := g8.h _ _ tqq (g37.hh _ _ th3)
      have g08 := g07.trans g8
      refine ws_dput hr.units1 (Ev.ap g8.s (Ev.str (i := ("more" : Str))) fun G9 H9 mw g9 rm9 => we_v 9 rfl (Ev.ap g9.s (Ev.str (i := ("zz" : Str))) fun G10 H10 zw g10 rz10 => ?_))
      cases rz10
      have g810 := g9.trans g10
      have g010 := g08.trans g810.any
      refine ⟨tq, kvs, "zz", rfl, rfl, g810.hh _ _ th8, ?_, ?_⟩
      · have := e3.length
        unfold verdF at this
        rw [List.length_map] at this
        have := hs.few
        omega
      · have gF := gr_rm (o := .dK (putK kvs (Sum.inr "zz") mw)) s0 g010 tn0
        have dg10 : G10 dq = some (.dK kvd) := ((g57.g.trans g8.g).trans g810.g) _ _ dg5
        have rdF : rp (rm G10 tq) (.ref dq) (verdF ns rs fl) := ⟨dq, kvd, rfl, by unfold rm; rw [if_neg hdt]; exact dg10, kv_any e6⟩
        have pF : Purse q (b' + 5) (rm G10 tq) (upd H10 tq (.dK (putK kvs (Sum.inr "zz") mw))) := by
          obtain ⟨n1, xs, n2, n3⟩ := p8.gr g810
          refine ⟨?_, xs, by rw [upd_ne tqq.symm]; exact n2, n3⟩
          unfold rm
          rw [if_neg tqq.symm]; exact n1
        generalize rm G10 tq = G11 at gF rdF pF
        generalize upd H10 tq (.dK (putK kvs (Sum.inr "zz") mw)) = H11 at gF pF
        refine ws_ifF (Same.refl _) gF.s (ET.neDct hr.units1 (EvF.ev (ver_call cV hr (Ev.v 2 rfl (rup gF.g rn)) (Ev.v 4 rfl (rup gF.g rd)) (Ev.v 8 rfl (rup gF.g rf)) ⟨hn, List.Perm.refl _, rok⟩ hk hf)) (Ev.v 10 rfl rdF) nk) fun G12 H12 g12 => ?_
        exact ws_nil (hD _ _ _ G12 H12 (gF.trans g12.any) (pF.gr g12)).1
    refine ws_ifW (wt_and (ET.ap g7.s (ET.lt (Ev.lenL B (Ev.v 2 rfl (rup g07.g rn))) (Ev.int (i := 4))) fun G8 H8 g8 => ?_))
    have g08 := g07.trans g8.any
    by_cases h3 : ((ns.length : Nat) : Int) < 4
    · rw [decide_eq_true h3]
      have h3' : ns.length ≤ 3 := by omega
      refine iteT (ww_and (WT.of (pt_cmpR op_eq pe_we pe_int (nomark _)) (we_call2 cD hr (we_v 1 rfl (Ev.ap g8.s (Ev.int (i := 3)) fun G9 H9 v9 g9 r9 => ?_)))))
      cases r9
      refine ⟨G9, q, 3, _, rfl, g9.s, (p7.gr g8).gr g9, by decide, by decide, by omega, fun G10 H10 y g10 p10 y0 y3 => ⟨rfl, _, rfl, ?_⟩⟩
      have g710 := (g8.trans g9).any.trans g10
      have g010 := g07.trans g710
      by_cases hy : V.int y = V.int 0
      · rw [decide_eq_true hy]
        refine iteT (ww_and1 (ET.ap g10.s (ET.neDct hr.units1 (Ev.v 10 rfl (rup (g57.g.trans g710.g) rd5)) (Ev.eq (all_call cA hr (Ev.v 2 rfl (rup g010.g rn)) (Ev.v 4 rfl (rup g010.g rd)) (Ev.v 8 rfl (rup g010.g rf)) hn h3' rok hf) (all_verd hn rok hk hf)) nk) fun G11 H11 g11 => ?_))
        exact iteF (ws_nil (fin G11 H11 (g710.trans g11.any) ((p10.gr g11).le (by omega))))
      · rw [decide_eq_false hy]
        exact iteF (iteF (ws_nil (fin G10 H10 g710 (p10.le (by omega)))))
    · rw [decide_eq_false h3]
      exact iteF (iteF (ws_nil (fin G8 H8 g8.any ((p7.gr g8).le (by omega)))))
  · have ek : kb = false := by
      cases kb with
      | false => rfl
      | true => exact absurd (hkb.mp rfl) hk
    subst ek
    have g03 := g02.trans g3.any
    refine ws_ifW (ET.ap g3.s (ET.not (ET.val (Ev.v 7 rfl (rfl : rp G3 (.bl false) false)))) fun G4 H4 g4 => ?_)
    refine iteT (ws_ifF (Same.refl _) g4.s (ET.eq (ET.neD (i := (⟨"Clash", true⟩ : M2 Str Bool)) (j := (⟨"Clash", true⟩ : M2 Str Bool)) hr.units (Ev.v 9 rfl (rup g4.g rt)) (Ev.lst2 Ev.str (Ev.bl (i := true))) ⟨strOk_clash, trivial⟩ ⟨strOk_clash, trivial⟩) (by simp)) fun G5 H5 g5 => ?_)
    exact WS.cons ps_continue (hD _ _ _ G5 H5 (g03.trans (g4.trans g5).any) ((p2.gr (g3.trans (g4.trans g5))).le (by omega))).2
end
end T82

namespace T82
open PySem L2 D1 Rp
/-! ### the law -/
open SX
def PLaw (K : PySem.W.Frag) : Sp := fun vs H Q _ => ∃ G v, ∃ ns : Scr K, vs = [v] ∧ Same G H ∧ rp G v ns ∧ ∀ H', Q (.bl true) H'
theorem kept_nil {es : List Str} : KeptR es [] := by
  refine ⟨fun x hx => Reach.step hx fun o ho => ?_, fun t ht => by cases ht⟩
  have : o ∈ ([] : List Off) := ho
  cases this
abbrev AB : List Str := ["ale", "bun"]
theorem ab_ok : Nm8 AB := ⟨by decide +kernel, by decide +kernel, by decide +kernel, by decide +kernel, by decide +kernel⟩
theorem ab_part : Part AB AB := ⟨fun z hz => hz, ab_ok.nodup, ab_ok.sorted, ab_ok.ne⟩
theorem ab_first : firstIn AB AB = some ("ale" : Str) ∧ firstIn (["bun", "ale"] : List Str) AB = some ("bun" : Str) := by decide +kernel
theorem ab_fit (r : List Str) (h : r.Perm AB) : Fits AB [] [r] := ⟨by simp, fun r' hr => by rw [List.mem_singleton.mp hr]; exact h, fun r' hr => by cases hr⟩
theorem ab_word {n : Str} (h : n ∈ AB) : wordF AB (toldL []) AB n = "open" := by
  have rok : RdsOk AB [] := rds_ok ab_ok (fun r hr => by cases hr) (by decide)
  have f1 := ab_fit AB (List.Perm.refl _)
  have f2 := ab_fit ["bun", "ale"] (List.Perm.swap _ _ _)
  have c1 : ∀ x, x ∈ cardsF [AB] AB ↔ x = "ale" := fun x => by
    rw [mem_cards]
    constructor
    · rintro ⟨r, hr, e⟩
      rw [List.mem_singleton.mp hr, ab_first.1] at e
      exact (Option.some.inj e).symm
    · intro e; rw [e]; exact ⟨_, List.mem_singleton.mpr rfl, ab_first.1⟩
  have c2 : ∀ x, x ∈ cardsF [["bun", "ale"]] AB ↔ x = "bun" := fun x => by
    rw [mem_cards]
    constructor
    · rintro ⟨r, hr, e⟩
      rw [List.mem_singleton.mp hr, ab_first.2] at e
      exact (Option.some.inj e).symm
    · intro e; rw [e]; exact ⟨_, List.mem_singleton.mpr rfl, ab_first.2⟩
  have hne : ¬ ("ale" : Str) = "bun" := by decide +kernel
  have h2 : n = "ale" ∨ n = "bun" := by simpa using h
  rcases word_is ab_ok rok kept_nil ab_part h with ⟨_, hw⟩ | ⟨_, hw⟩ | ⟨e, _⟩
  · exfalso
    rcases h2 with e | e
    · have := (c2 n).mp (hw _ f2); rw [e] at this; exact hne this
    · have := (c1 n).mp (hw _ f1); rw [e] at this; exact hne this.symm
  · exfalso
    rcases h2 with e | e
    · exact hw _ f1 ((c1 n).mpr e)
    · exact hw _ f2 ((c2 n).mpr e)
  · exact e
theorem ab_verd : verdF AB [] AB = ⟨[("ale", "open"), ("bun", "open")]⟩ := by
  unfold verdF
  show DctS.mk [(("ale" : Str), wordF AB (toldL []) AB "ale"), (("bun" : Str), wordF AB (toldL []) AB "bun")] = _
  rw [ab_word (by simp), ab_word (by simp)]
/-- {k: v, l: w} -/
theorem Ev.disp2 {β : Type} [Rp β] {X : Cx} {σ : L2.St} {G : Hp} {k1 k2 v1 v2 : Expr} {pos : Pos} {z1 z2 : Str} {d1 d2 : β} (h1 : Ev X k1 σ G z1) (h2 : Ev X v1 σ G d1) (h3 : Ev X k2 σ G z2) (h4 : Ev X v2 σ G d2) (hz : z1 ≠ z2) : Ev X (.Dict [some k1, some k2] [v1, v2] pos) σ G (⟨[(z1, d1), (z2, d2)]⟩ : DctS β) := fun G1 H1 Q s1 s2 kk =>
  WE.of (pe_disp (pps_cons pe_we pe_we (pps_cons pe_we pe_we pps_nil)) rfl rfl (by simp) (by show 2 ≤ 15; decide)) fun p hp => by
    have gn := Gr.newM (o := .dK []) s2 hp
    refine Ev.ap gn.s (h1.up s1) fun G2 H2 x1 g2 r1 => Ev.ap g2.s (h2.up (s1.trans g2.g)) fun G3 H3 y1 g3 r2 => Ev.ap g3.s (h3.up (s1.trans (g2.trans g3).g)) fun G4 H4 x2 g4 r3 => Ev.ap g4.s (h4.up (s1.trans ((g2.trans g3).trans g4).g)) fun G5 H5 y2 g5 r4 => ?_
    cases r1
    cases r3
    have gA := (((gn.trans g2).trans g3).trans g4).trans g5
    have gB := ((g2.trans g3).trans g4).trans g5
    refine ⟨gB.hh _ _ upd_same, [(Sum.inr z1, y1), (Sum.inr z2, y2)], rfl, (by show 2 ≤ 15; decide), ?_⟩
    have hm : mergeK [] [((Sum.inr z1 : Key), y1), (Sum.inr z2, y2)] = [(Sum.inr z1, y1), (Sum.inr z2, y2)] := by
      rw [merge_nodup]
      · rfl
      · simp [hz]
    rw [hm]
    have np : G5 p = none := gB.f p (s2.free hp) (by rw [upd_same]; exact fun z => nomatch z)
    have gF := gA.off (o := .dK [(Sum.inr z1, y1), (Sum.inr z2, y2)]) hp np
    have gP := gF.promote hp np upd_same
    have sN : Same G5 (upd G5 p (.dK [(Sum.inr z1, y1), (Sum.inr z2, y2)])) := same_new np
    exact kk _ _ _ gP ⟨p, _, rfl, upd_same, .cons ⟨rfl, rup ((g4.trans g5).g.trans sN) r2⟩ (.cons ⟨rfl, rup sN r4⟩ .nil)⟩
section
variable {P : Program} {w : World} {K : PySem.W.Frag} {mg : Str → Option Value} {base : Heap} {f C CP : Addr} {fd : FuncData}
theorem told_no {X : Cx} {σ : L2.St} {G : Hp} {a b c : Expr} {p pos : Pos} {ns es : List Str} {rs : List Rd} {γ : Type} [Rp γ] {d : γ} (cT : C8.Cal X.prog X.w X.K X.mg X.base 14 "_law_told" PTold []) (hr : Room 14 X.A) (h1 : Ev X a σ G es) (h2 : Ev X b σ G rs) (h3 : Ev X c σ G d) (h : VerOk ns es rs) (k : ¬ KeptR ns rs) (hg : Gl X "_law_told" := by rfl)
    (hs : starEach [a, b, c] X.env = (false, eval a X.env) :: starEach [b, c] X.env := by rfl) (hs2 : starEach [b, c] X.env = (false, eval b X.env) :: starEach [c] X.env := by rfl) (hs3 : starEach [c] X.env = (false, eval c X.env) :: starEach [] X.env := by rfl) (hpl : (backTo pos (starEach [b, c] X.env)).any (·.1) = false := by rfl) :
    Ev X (.Call (.Name "_law_told" p) [a, b, c] [] pos) σ G (⟨"Clash", true⟩ : M2 Str Bool) := fun G1 H1 Q s1 s2 k4 =>
  we_call3 cT hr (Ev.ap s2 (h1.up s1) fun G2 H2 u g2 r2 => Ev.ap g2.s (h2.up (s1.trans g2.g)) fun G3 H3 v g3 r3 => Ev.ap g3.s (h3.up (s1.trans (g2.trans g3).g)) fun G4 H4 z g4 r4 =>
    ⟨G4, u, v, z, ns, es, rs, rfl, g4.s, rup (g3.trans g4).g r2, rup g4.g r3, h, fun hk => absurd hk k, fun _ G5 H5 w5 g5 r5 => k4 G5 H5 w5 (((g2.trans g3).trans g4).trans g5) r5⟩) (by decide) hg (by decide) hs hs2 hs3 hpl
set_option maxHeartbeats 16000000 in
theorem law_turn (B : Bt mg) (hR : mg "repr" = none) (cS : C8.Cal P w K mg base 3 "_law_shuffled" (PShuf Str) []) (cD : C8.Cal P w K mg base 2 "_law_draw" PDraw []) (cT : C8.Cal P w K mg base 14 "_law_told" PTold []) (cLV : C8.Cal P w K mg base 4 "_law_verdict" PLV []) (cH : C8.Cal P w K mg base 2 "_law_hidden_right" PHid []) (cA : C8.Cal P w K mg base 3 "_law_by_all" PAll []) (cV : C8.Cal P w K mg base 13 "verdict" PVer0 [])
    (cSR : C8.Cal P w K mg base 2 "_law_some_rows" (P2 (fun ns ls => Lok ns ∧ LnsOk ls) lawSome) []) (cLn : C8.Cal P w K mg base 1 "_law_round_lines" (P1 (fun rs => ∃ es, RdsOk es rs) lawLines) []) (cFi : C8.Cal P w K mg base 1 "_law_fields" (P1 (fun ns => ns.length ≤ 6) fieldsF) [])
    {cdv : Value} {A : Around} {outer : List Env} {s : Shared} {Hs : Hp} {E : XK} (noG : (BX P w K mg base nLaw "law" sLaw f cdv A outer s Hs E).A.guards = some []) (hr : Room 14 (BX P w K mg base nLaw "law" sLaw f cdv A outer s Hs E).A)
    {Dn : Ends} {G0 H0 : Hp} {q : Addr} {b' : Int} {v nw rw rv : V} {t5 t6 t7 t8 t9 t10 t11 : Option V} {ns : List Str} {rows : List (List Str)} {rs : List Rd} (s0 : Same G0 H0) (pq : Purse q b' G0 H0) (hb : b' < 2 ^ 32) (rn : rp G0 nw ns) (rr : rp G0 rw rows) (rd : rp G0 rv rs) (hn : Nm8 ns) (h4 : ns.length ≤ 4) (hpm : ∀ r ∈ rows, r.Perm ns) (hne : rows ≠ []) (hrl : rows.length ≤ 3) (hrd : ∀ r ∈ rs, RdP ns r) (h5 : rs.length ≤ 5)
    (hD : ∀ t2 t3 t4 t5 t6 t7 t8 t9 t10 t11 G' H', GrM (Mq q) G0 H0 G' H' → Dn.nx [some v, some (.ref q), t2, t3, t4, t5, t6, t7, t8, t9, t10, t11] H') :
    WS (BX P w K mg base nLaw "law" sLaw f cdv A outer s Hs E) (match C8.fnBody sLaw with | .For _ _ (_ :: rest) _ _ :: _ => rest | _ => []) Dn [some v, some (.ref q), some nw, some rw, some rv, t5, t6, t7, t8, t9, t10, t11] H0 := by
  have a6 : sizeLine = 16777216 := rfl
  have rok : RdsOk ns rs := rds_ok hn hrd (by omega)
  have ly : Da.lay (M2.mk ns rs) := ⟨hn.lok.lay, rds_lay rok.lok⟩
  refine WS.cons (ps_par (i := 5) (j := 6) rfl scLaw.nd rfl rfl (by decide) rfl rfl (pa_cons pe_we (pa_cons pe_we pa_nil)) rfl) ?_
  refine Ev.ap (a := lawLines rs) s0 (Ev.call1 cLn hr (Ev.v 4 rfl rd) ⟨ns, rok⟩) fun G1 H1 lw g1 rl => ?_
  refine Ev.ap (a := showD (M2.mk ns rs)) g1.s (Ev.reprS noG hr.units hR (Ev.lst2 (Ev.v 2 rfl (rup g1.g rn)) (Ev.v 4 rfl (rup g1.g rd))) ly (cost_rds hn hrd (by omega))) fun G2 H2 ow g2 ro => ⟨lw, ow, rfl, ?_⟩
  have g02 := g1.trans g2
  refine ws_asg 7 (d := !(lawSome ns (lawLines rs)).isNone) (Same.refl _) g2.s (Ev.notN (Ev.call2 (f := lawSome) cSR hr (Ev.v 2 rfl (rup g02.g rn)) (Ev.v 5 rfl (rup g2.g rl)) ⟨hn.lok, lawLines_ok rok⟩)) (fun G3 H3 kw g3 rk => ?_) scLaw.nd
  cases rk
  have hkb := kept_is rok
  generalize (!(lawSome ns (lawLines rs)).isNone) = kb at hkb
  have g03 := g02.trans g3
  have fl16 : (fieldsF ns).length ≤ 16 := by
    unfold fieldsF
    rw [List.length_drop, subs_len]
    have := two_le (n := ns.length) (m := 4) h4
    have e : 2 ^ 4 = 16 := rfl
    omega
  refine ws_for (fun i σ' G' H' => ∃ t8 t9 t10 t11, σ' = [some v, some (.ref q), some nw, some rw, some rv, some lw, some ow, some (.bl kb), t8, t9, t10, t11] ∧ GrM (Mq q) G3 H3 G' H' ∧ Purse q (b' + 5 * (i : Nat)) G' H')
    (G := G3) (Same.refl _) g3.s (EI.list (Ev.call1 (f := fieldsF) cFi hr (Ev.v 2 rfl (rup g03.g rn)) (by omega))) tgB1 (pg_name (i := 8) scLaw.nd rfl (by first | exact Or.inl rfl | exact Or.inr rfl))
    (fun G4 H4 g4 => ⟨_, _, _, _, rfl, g4.any, ((pq.gr g03).gr g4).le (by omega)⟩) ?_ ?_ PassesOwn.never
  · rintro i c σ1 G4 H4 hc s34 s44 ⟨t8', t9', t10', t11', rfl, gA, p4⟩ G5 H5 σ2 g5 ⟨fw, rf, rfl⟩
    have hi : i < 16 := Nat.lt_of_lt_of_le (List.getElem?_eq_some_iff.mp hc).1 fl16
    have hcp := field_part hn (List.mem_of_getElem? hc)
    have g35 := gA.trans g5.any
    have g05 := g03.g.trans g35.g
    refine law_field B cS cD cT cLV cH cA cV hr g5.s (p4.gr g5) (by omega) (rup g05 rn) (rup g05 rr) (rup g05 rd) hn h4 hpm hne hrl hrd h5 rf hcp hkb fun t9 t10 t11 G' H' g' p' => ?_
    have q2 : ∃ G'', Same G5 G'' ∧ Same G'' H' ∧ ∃ t8 t9' t10' t11', ([some v, some (.ref q), some nw, some rw, some rv, some lw, some ow, some (.bl kb), some fw, t9, t10, t11] : L2.St) = [some v, some (.ref q), some nw, some rw, some rv, some lw, some ow, some (.bl kb), t8, t9', t10', t11'] ∧ GrM (Mq q) G3 H3 G'' H' ∧ Purse q (b' + 5 * ((i + 1 : Nat) : Int)) G'' H' :=
      ⟨G', g'.g, g'.s, _, _, _, _, rfl, g35.trans g', p'.le (by push_cast; omega)⟩
    exact ⟨q2, q2⟩
  · rintro σ1 G4 H4 s34 s44 ⟨t8', t9', t10', t11', rfl, gA, p4⟩
    have g04 := g03.any.trans gA
    have mid : ∀ G5 H5, Gr G4 H4 G5 H5 → WS (BX P w K mg base nLaw "law" sLaw f cdv A outer s Hs E) (match C8.fnBody sLaw with | .For _ _ (_ :: _ :: _ :: _ :: _ :: rest) _ _ :: _ => rest | _ => []) Dn [some v, some (.ref q), some nw, some rw, some rv, some lw, some ow, some (.bl kb), t8', t9', t10', t11'] H5 := fun G5 H5 g5 => by
      have g05 := g04.trans g5.any
      refine ws_ifF (Same.refl _) g5.s (ET.eq (ET.neS (Ev.reprS noG hr.units hR (Ev.lst2 (Ev.v 2 rfl (rup g05.g rn)) (Ev.v 4 rfl (rup g05.g rd))) ly (cost_rds hn hrd (by omega))) (Ev.v 6 rfl (rup (g3.g.trans (gA.g.trans g5.g)) ro))) (by simp)) fun G6 H6 g6 => ?_
      exact ws_nil (hD _ _ _ _ _ _ _ _ _ _ G6 H6 (g05.trans g6.any))
    refine ws_ifW (wt_and2 (ET.ap gA.s (ET.not (ET.val (Ev.v 7 rfl (rfl : rp G4 (.bl kb) kb)))) fun G5 H5 g5 => ?_))
    cases kb with
    | true => exact iteF (iteF (ws_nil (mid G5 H5 g5)))
    | false =>
      have hk : ¬ KeptR ns rs := fun h => by cases hkb.mpr h
      have g05 := g04.trans g5.any
      refine iteT (ET.ap g5.s (ET.eq (ET.neD (i := (⟨"Clash", true⟩ : M2 Str Bool)) (j := (⟨"Clash", true⟩ : M2 Str Bool)) hr.units (told_no (d := ()) cT hr (Ev.v 2 rfl (rup g05.g rn)) (Ev.v 4 rfl (rup g05.g rd)) Ev.non ⟨hn, List.Perm.refl _, rok⟩ hk) (Ev.lst2 Ev.str (Ev.bl (i := true))) ⟨strOk_clash, trivial⟩ ⟨strOk_clash, trivial⟩) (show _ = false by simp)) fun G6 H6 g6 => ?_)
      exact iteF (ws_nil (mid G6 H6 (g5.trans g6)))
set_option maxHeartbeats 16000000 in
theorem law_tail (B : Bt mg) (cP : C8.Cal P w K mg base 1 "_law_purse" (PNew K) []) (cGr : C8.Cal P w K mg base 5 "_law_great_seen" PGreat []) (cLV : C8.Cal P w K mg base 4 "_law_verdict" PLV []) (cH : C8.Cal P w K mg base 2 "_law_hidden_right" PHid []) (cV : C8.Cal P w K mg base 13 "verdict" PVer0 [])
    {cdv : Value} {A : Around} {outer : List Env} {s : Shared} {Hs : Hp} {E : XK} (hr : Room 14 (BX P w K mg base nLaw "law" sLaw f cdv A outer s Hs E).A)
    {Dn : Ends} {G0 H0 : Hp} {v : V} {sc : Scr K} {t1 t2 t3 t4 t5 t6 t7 t8 t9 t10 t11 : Option V} (s0 : Same G0 H0) (rv : rp G0 v sc) (hD : ∀ H', Dn.rt (.bl true) H') :
    WS (BX P w K mg base nLaw "law" sLaw f cdv A outer s Hs E) (match C8.fnBody sLaw with | _ :: rest => rest | _ => []) Dn [some v, t1, t2, t3, t4, t5, t6, t7, t8, t9, t10, t11] H0 := by
  have a6 : sizeLine = 16777216 := rfl
  have hn := great_ok
  refine ws_asg3L 2 3 4 (we_call1 cGr hr (we_call2 cP hr (we_v 0 rfl (Ev.ap s0 (Ev.int (i := 0)) fun G1 H1 v1 g1 r1 => ?_)))) scLaw.nd
  cases r1
  refine ⟨G1, v, sc, 0, rfl, g1.s, rup g1.g rv, fun G2 H2 q g2 hq0 hq1 p2 => ⟨G2, q, 0, rfl, g2.s, p2, by decide, fun G3 H3 L nw rw fw rows rs g3 hL rn rr rd hpm hne hrl hrs hrd => ⟨L, nw, rw, fw, rfl, hL, ?_⟩⟩⟩
  have hrdP : ∀ r ∈ rs, RdP GreatN r := fun r hr' => (hrd r hr').1
  have rok : RdsOk GreatN rs := rds_ok hn hrdP (by omega)
  have hk : KeptR GreatN rs := fit_kept rok hpm hne fun r hr' => (hrd r hr').2.2.symm
  have c1 : cutL GreatN none (some ((1 : Nat) : Int)) = (["aq"] : List Str) := cutL_to
  obtain ⟨r0, hr0⟩ : ∃ r0, rs[0]? = some r0 := ⟨_, List.getElem?_eq_getElem (by omega)⟩
  have hm0 := List.mem_of_getElem? hr0
  have at0 : atI rs (0 : Int) = some r0 := atI_nat (j := 0) hr0
  have hr0l : Lok r0.1 := (rok.lok r0 hm0).1
  have l0 := (hrd r0 hm0).2.1
  refine ws_asgSel 8 11 (t := fun n => decide (n ∈ (["aq"] : List Str) ++ r0.1)) (Same.refl _) g3.s (EI.list (Ev.v 2 rfl rn)) (fun n hm G' v' s' r' s H C2 cl fp => ET.inD hr.units65 (Ev.v 11 rfl r') (Ev.cat (Ev.eq (Ev.slTo (Ev.v 2 rfl (rup s' rn)) (Ev.int (i := 1))) c1) (Ev.ix20 (Ev.ixL (Ev.v 4 rfl (rup s' rd)) (Ev.int (i := 0)) at0)) (by have : (["aq"] : List Str).length = 1 := rfl; omega)) (hn.lok.1 n hm).2 (fun x hx => by
      rcases List.mem_append.mp hx with h | h
      · rw [List.mem_singleton.mp h]; exact (hn.lok.1 "aq" (by decide +kernel)).2
      · exact (hr0l.1 x h).2)) (fun G4 H4 fv g4 rf => ?_) (by rw [great_len]; decide) scLaw.nd (blkOk_by (N := nLaw) (sc := C8.fnScope sLaw) (by decide +kernel))
  have hfp : Part (GreatN.filter fun n => decide (n ∈ (["aq"] : List Str) ++ r0.1)) GreatN := by
    have sb : (GreatN.filter fun n => decide (n ∈ (["aq"] : List Str) ++ r0.1)).Sublist GreatN := List.filter_sublist
    refine ⟨fun z hz => sb.subset hz, hn.nodup.sublist sb, hn.sorted.sublist sb, fun e => ?_⟩
    have : ("aq" : Str) ∈ GreatN.filter fun n => decide (n ∈ (["aq"] : List Str) ++ r0.1) := List.mem_filter.mpr ⟨by decide +kernel, decide_eq_true (List.mem_append_left _ (List.mem_singleton.mpr rfl))⟩
    rw [e] at this
    cases this
  generalize (GreatN.filter fun n => decide (n ∈ (["aq"] : List Str) ++ r0.1)) = fl at rf hfp
  have nk : ((verdF GreatN rs fl).kvs.map (·.1)).Nodup := by rw [keys_verd]; exact hfp.2.1
  have vok : VerOk GreatN GreatN rs := ⟨hn, List.Perm.refl _, rok⟩
  refine ws_asg 9 (d := verdF GreatN rs fl) (Same.refl _) g4.s (EvF.ev (ver_call cV hr (Ev.v 2 rfl (rup g4.g rn)) (Ev.v 4 rfl (rup g4.g rd)) (Ev.v 8 rfl rf) vok hk hfp)) (fun G5 H5 tw g5 rt => ?_) scLaw.nd
  have g45 := g4.trans g5
  refine ws_ifF (Same.refl _) g5.s (ET.eq (EW.t (EW.or (ET.neDct hr.units1 (Ev.v 9 rfl rt) (EvF.ev (lv_call cLV hr (Ev.v 2 rfl (rup g45.g rn)) (Ev.v 4 rfl (rup g45.g rd)) (Ev.v 8 rfl (rup g5.g rf)) hn rok hfp)) nk) fun _ => EW.or1 (ET.not (ET.val (hid_call cH hr (Ev.v 3 rfl (rup g45.g rr)) (Ev.v 4 rfl (rup g45.g rd)) (Ev.v 8 rfl (rup g5.g rf)) (Ev.v 9 rfl rt) hn hpm hne (by omega) rok hk hfp))))) rfl) fun G6 H6 g6 => ?_
  have rok0 : RdsOk AB [] := rds_ok ab_ok (fun r hr => by cases hr) (by decide)
  refine ws_retW (Ev.ap (a := true) g6.s (Ev.eqDct (d := (⟨[("ale", "open"), ("bun", "open")]⟩ : DctS Str)) hr.units1 (Ev.eq (EvF.ev (ver_call (ns := AB) (es := AB) (rs := []) (fl := AB) cV hr (Ev.lst (xs := AB) (EL.cons Ev.str (EL.cons Ev.str EL.nil)) (show 2 ≤ 1000 by decide)) Ev.nil (Ev.lst (xs := AB) (EL.cons Ev.str (EL.cons Ev.str EL.nil)) (show 2 ≤ 1000 by decide)) ⟨ab_ok, List.Perm.refl _, rok0⟩ kept_nil ab_part)) ab_verd) (Ev.disp2 Ev.str Ev.str Ev.str Ev.str (by decide +kernel)) (by decide +kernel)) fun G7 H7 w7 g7 r7 => ?_)
  cases r7
  exact hD H7
set_option maxHeartbeats 16000000 in
theorem law_fn (D : C8.Fun K "law" "law" sLaw f fd) (B : Bt mg) (hR : mg "repr" = none) (cPs : C8.Cal P w K mg base 2 "_law_purses" (PPurses K) []) (cSe : C8.Cal P w K mg base 5 "_law_seen" PSeen []) (cP : C8.Cal P w K mg base 1 "_law_purse" (PNew K) []) (cGr : C8.Cal P w K mg base 5 "_law_great_seen" PGreat []) (cS : C8.Cal P w K mg base 3 "_law_shuffled" (PShuf Str) []) (cD : C8.Cal P w K mg base 2 "_law_draw" PDraw []) (cT : C8.Cal P w K mg base 14 "_law_told" PTold []) (cLV : C8.Cal P w K mg base 4 "_law_verdict" PLV [])
    (cH : C8.Cal P w K mg base 2 "_law_hidden_right" PHid []) (cA : C8.Cal P w K mg base 3 "_law_by_all" PAll []) (cV : C8.Cal P w K mg base 13 "verdict" PVer0 []) (cSR : C8.Cal P w K mg base 2 "_law_some_rows" (P2 (fun ns ls => Lok ns ∧ LnsOk ls) lawSome) []) (cLn : C8.Cal P w K mg base 1 "_law_round_lines" (P1 (fun rs => ∃ es, RdsOk es rs) lawLines) []) (cFi : C8.Cal P w K mg base 1 "_law_fields" (P1 (fun ns => ns.length ≤ 6) fieldsF) []) :
    FnG P w K mg base 15 f fd ["script"] (PLaw K) := by
  refine FnG.of D scLaw (fun vs H Q E h => ?_) fun cdv A outer s H vs Q E noG hr h => ?_
  · obtain ⟨G, v, ns, rfl, _⟩ := h
    rfl
  · obtain ⟨G, v, ns, rfl, sG, r, kk⟩ := h
    have a6 : sizeLine = 16777216 := rfl
    refine ws_forL (γ := Adr) 1 (G1 := G) (fun qs i σ' G' H' => ∃ t1 t2 t3 t4 t5 t6 t7 t8 t9 t10 t11, σ' = [some v, t1, t2, t3, t4, t5, t6, t7, t8, t9, t10, t11] ∧ qs.Nodup ∧ ∀ q ∈ qs.drop i, Purse q.p 0 G' H')
      (we_call2 cPs hr (we_v 0 rfl (Ev.ap sG (Ev.int (i := 2)) fun G1 H1 v1 g1 r1 => ?_))) ?_ ?_ scLaw.nd
    · cases r1
      exact ⟨G1, v, ns, 2, rfl, g1.s, rup g1.g r, by decide, by decide, fun G2 H2 w qs g2 rw hnd hl hq => ⟨qs, G2, (g1.trans g2).g, g2.s, rw, none, none, none, none, none, none, none, none, none, none, none, rfl, hnd, fun q hq' => (hq q hq').2⟩⟩
    · rintro qs i q σ1 G2 H2 qv hc s12 s22 rq ⟨t1, t2, t3, t4, t5, t6, t7, t8, t9, t10, t11, rfl, hnd, hp⟩
      cases rq
      have hdr : qs.drop i = q :: qs.drop (i + 1) := by
        obtain ⟨h1, h2⟩ := List.getElem?_eq_some_iff.mp hc
        rw [List.drop_eq_getElem_cons h1, h2]
      have pq : Purse q.p 0 G2 H2 := hp q (by rw [hdr]; exact List.mem_cons_self)
      refine ws_asg3L 2 3 4 (we_call3 cSe hr (we_v 1 rfl (Ev.ap s22 (Ev.int (i := 4)) fun G3 H3 v3 g3 r3 => Ev.ap g3.s (Ev.int (i := 5)) fun G4 H4 v4 g4 r4 => ?_))) scLaw.nd
      cases r3
      cases r4
      refine ⟨G4, q.p, 4, 5, 0, rfl, g4.s, (pq.gr g3).gr g4, by decide, by decide, by decide, by decide, fun G5 H5 L nw rw fo acc nm rows rs g5 p5 hL rn rr nf hf0 qfo hf pr hn hnl hpm hne hrl hrsl hrd => ⟨L, nw, rw, .ref fo, rfl, hL, ?_⟩⟩
      have g25 : GrM (Mq q.p) G2 H2 G5 H5 := (g3.trans g4).any.trans g5
      have hf2 : H2 fo = none := (g3.trans g4).fresh hf0
      have gP := g25.promote hf2 nf hf
      have pP : Purse q.p 600 (upd G5 fo (.lst acc)) H5 := (p5.le (by omega)).up qfo
      have sU : Same G5 (upd G5 fo (.lst acc)) := same_new nf
      have rds : rp (upd G5 fo (.lst acc)) (.ref fo) rs := ⟨fo, acc, rfl, upd_same, pmono pr fun _ _ => rup sU⟩
      refine law_turn B hR cS cD cT cLV cH cA cV cSR cLn cFi noG hr gP.s pP (by decide) (rup sU rn) (rup sU rr) rds hn hnl hpm hne hrl hrd hrsl fun u2 u3 u4 u5 u6 u7 u8 u9 u10 u11 G' H' g' => ?_
      have gE := gP.trans g'
      refine ⟨G', gE.g, gE.s, _, _, _, _, _, _, _, _, _, _, _, rfl, hnd, fun q' hq' => ?_⟩
      have hne' : q' ≠ q := fun e => by
        subst e
        have h1 : (qs.drop i).Nodup := (List.drop_sublist _ _).nodup hnd
        rw [hdr] at h1
        exact (List.nodup_cons.mp h1).1 hq'
      have p2 := hp q' (by rw [hdr]; exact List.mem_cons_of_mem _ hq')
      have hpne : q'.p ≠ q.p := fun e => hne' (by cases q; cases q'; simp only [Adr.mk.injEq]; exact e)
      exact p2.grM gE hpne
    · rintro qs σ1 G2 H2 s12 s22 ⟨t1, t2, t3, t4, t5, t6, t7, t8, t9, t10, t11, rfl, hnd, hp⟩
      exact law_tail B cP cGr cLV cH cV hr s22 (rup s12 r) fun H' => kk H'
end
end T82

namespace T82
open PySem L2 D1 Rp
/-! ### what the top has written -/
def DefAt (K : PySem.W.Frag) (x : Str) (st : Stmt) : Prop := ∃ (f : Addr) (oc : Value) (od : Option Addr) (kV dc pm : Value) (an : Option Addr) (cd ct : Value) (sl : Array (Option Value)),
  PySem.W.nsIn K mainGlobals x = some (some (.ref f)) ∧ K.lookup f = some ⟨oc, od, .func (PySem.W.fnOf x x (C8.fnArgs st) (C8.fnBody st) (C8.fnScope st) .none kV dc pm an cd ct), sl⟩ ∧ PySem.W.codeIn K cd x = true ∧ PySem.W.keepIn K (.ref f) = true
def MethAt (K : PySem.W.Frag) (C : Addr) (m qual : Str) (st : Stmt) (f : Addr) : Prop := ∃ (od : Option Addr) (kV dc pm : Value) (an : Option Addr) (cd ct : Value) (sl : Array (Option Value)),
  PySem.W.findIn K (.ref C) m = some (some (.ref f)) ∧ PySem.W.isFn K (.ref f) = true ∧ K.lookup f = some ⟨.type "function", od, .func (PySem.W.fnOf m qual (C8.fnArgs st) (C8.fnBody st) (C8.fnScope st) .none kV dc pm an cd ct), sl⟩ ∧ PySem.W.codeIn K cd qual = true ∧ PySem.W.keepIn K (.ref f) = true
theorem DefAt.of {K : PySem.W.Frag} {x : Str} {st : Stmt} {f : Addr} {oc : Value} {od : Option Addr} {kV dc pm : Value} {an : Option Addr} {cd ct : Value} {sl : Array (Option Value)} (a : PySem.W.nsIn K mainGlobals x = some (some (.ref f))) (l : K.lookup f = some ⟨oc, od, .func (PySem.W.fnOf x x (C8.fnArgs st) (C8.fnBody st) (C8.fnScope st) .none kV dc pm an cd ct), sl⟩)
    (c : PySem.W.codeIn K cd x = true) (k : PySem.W.keepIn K (.ref f) = true) : DefAt K x st := ⟨f, oc, od, kV, dc, pm, an, cd, ct, sl, a, l, c, k⟩
theorem MethAt.of {K : PySem.W.Frag} {C : Addr} {m qual : Str} {st : Stmt} {f : Addr} {od : Option Addr} {kV dc pm : Value} {an : Option Addr} {cd ct : Value} {sl : Array (Option Value)} (a : PySem.W.findIn K (.ref C) m = some (some (.ref f))) (i : PySem.W.isFn K (.ref f) = true) (l : K.lookup f = some ⟨.type "function", od, .func (PySem.W.fnOf m qual (C8.fnArgs st) (C8.fnBody st) (C8.fnScope st) .none kV dc pm an cd ct), sl⟩)
    (c : PySem.W.codeIn K cd qual = true) (k : PySem.W.keepIn K (.ref f) = true) : MethAt K C m qual st f := ⟨od, kV, dc, pm, an, cd, ct, sl, a, i, l, c, k⟩
structure ClsAt (K : PySem.W.Frag) (x : Str) (C : Addr) : Prop where
  aC : PySem.W.nsIn K mainGlobals x = some (some (.ref C))
  pg : PySem.W.plainGet K C Str.empty = true
  hd : PySem.W.hasDictIn K C = true
  po : PySem.W.plainOver K C = true
  sa : PySem.W.findIn K (.ref C) "__setattr__" = some (some (.builtin "object.__setattr__"))
  mks : PySem.W.makesIn K C = true
  kp : PySem.W.keepIn K (.ref C) = true
  ha : PySem.W.findIn K (.ref C) "__class__" = some (some (.builtin "object.__class__"))
  hn : PySem.W.specialIn K (.builtin "object.__class__") "__get__" = some (some (.builtin "getset_descriptor.__get__"))
  htk : PySem.W.takesIn K (.builtin "object.__class__") = some true
  hm : PySem.W.mroIn K C (.type "object") = some true
def OwnAt (K : PySem.W.Frag) (C f : Addr) : Prop := ∃ (nm q : Str) (N : Addr) (bs : List Value) (hdct : Bool) (sn : List Str) (sub : List Value) (ab : Bool) (col : Option Bool) (dd : Option Addr) (k0 k1 k2 k3 k5 : Option Value) (nid : String) (oN : Value) (dN : Option Addr) (esN : Array DictEntry) (epN : Nat) (slN : Array (Option Value)),
  K.lookup C = some (excClassObj nm q C N bs [.type "object"] hdct sn sub ab col dd k0 k1 k2 k3 k5 nid) ∧ PySem.W.nsIn K N "__eq__" = some (some (.ref f)) ∧ PySem.W.nsIn K N "__ne__" = some none ∧ K.lookup N = some ⟨oN, dN, .dict esN epN, slN⟩ ∧ (esN.toList.all fun e => match e.key with | .str _ _ => true | _ => false) = true
theorem OwnAt.of {K : PySem.W.Frag} {C f : Addr} {nm q : Str} {N : Addr} {bs : List Value} {hdct : Bool} {sn : List Str} {sub : List Value} {ab : Bool} {col : Option Bool} {dd : Option Addr} {k0 k1 k2 k3 k5 : Option Value} {nid : String} {oN : Value} {dN : Option Addr} {esN : Array DictEntry} {epN : Nat} {slN : Array (Option Value)}
    (x : K.lookup C = some (excClassObj nm q C N bs [.type "object"] hdct sn sub ab col dd k0 k1 k2 k3 k5 nid)) (y : PySem.W.nsIn K N "__eq__" = some (some (.ref f))) (z : PySem.W.nsIn K N "__ne__" = some none) (n : K.lookup N = some ⟨oN, dN, .dict esN epN, slN⟩) (r : (esN.toList.all fun e => match e.key with | .str _ _ => true | _ => false) = true) : OwnAt K C f :=
  ⟨nm, q, N, bs, hdct, sn, sub, ab, col, dd, k0, k1, k2, k3, k5, nid, oN, dN, esN, epN, slN, x, y, z, n, r⟩
section
variable {P : Program} {w : World} {K : PySem.W.Frag} {mg : Str → Option Value} {base h : Heap} {C : Addr}
theorem ClsAt.cls {x : Str} (c : ClsAt K x C) : Cls K C := ⟨c.pg, c.hd, c.po, c.sa⟩
theorem ClsAt.isi {x : Str} (c : ClsAt K x C) : C8.InsC K C := ⟨c.cls, c.ha, c.hn, c.htk, c.hm, if_pos (beq_self_eq_true _)⟩
theorem DefAt.at {x : Str} {st : Stmt} (h1 : DefAt K x st) (X : K.In h) (G : h.Ns mainGlobals mg) (ps : List Str)
    (hb : ∀ (kV doc pm : Value) (an : Option Addr) (cdv ct : Value) (us : List Value), us.length = ps.length → bindArgs (PySem.W.fnOf x x (C8.fnArgs st) (C8.fnBody st) (C8.fnScope st) .none kV doc pm an cdv ct) ⟨us, []⟩ = pure (ps.zip us)) : ∃ f fd, C8.Def K mg x st f fd ∧ Binds K fd ps [] := by
  obtain ⟨f, oc, od, kV, dc, pm, an, cd, ct, sl, a, l, c, k⟩ := h1
  have F : C8.Fun K x x st f (PySem.W.fnOf x x (C8.fnArgs st) (C8.fnBody st) (C8.fnScope st) .none kV dc pm an cd ct) := ⟨oc, od, .none, kV, dc, pm, an, cd, ct, sl, rfl, l, c⟩
  exact ⟨f, _, ⟨F, PySem.W.mg_of X G a, k⟩, F.binds rfl hb⟩
theorem MethAt.at {m qual : Str} {st : Stmt} {f : Addr} (h1 : MethAt K C m qual st f) (ps : List Str)
    (hb : ∀ (kV doc pm : Value) (an : Option Addr) (cdv ct : Value) (us : List Value), us.length = ps.length → bindArgs (PySem.W.fnOf m qual (C8.fnArgs st) (C8.fnBody st) (C8.fnScope st) .none kV doc pm an cdv ct) ⟨us, []⟩ = pure (ps.zip us)) : ∃ fd, C8.Fun K m qual st f fd ∧ Meth K C m f ∧ Binds K fd ps [] := by
  obtain ⟨od, kV, dc, pm, an, cd, ct, sl, a, i, l, c, k⟩ := h1
  have F : C8.Fun K m qual st f (PySem.W.fnOf m qual (C8.fnArgs st) (C8.fnBody st) (C8.fnScope st) .none kV dc pm an cd ct) := ⟨.type "function", od, .none, kV, dc, pm, an, cd, ct, sl, rfl, l, c⟩
  exact ⟨_, F, ⟨a, i, k⟩, F.binds rfl hb⟩
theorem MethAt.own {qual : Str} {st : Stmt} {f : Addr} (h1 : MethAt K C "__eq__" qual st f) (h2 : OwnAt K C f) : OEq K C f := by
  obtain ⟨od, kV, dc, pm, an, cd, ct, sl, a, i, l, c, k⟩ := h1
  obtain ⟨nm, q, N, bs, hdct, sn, sub, ab, col, dd, k0, k1, k2, k3, k5, nid, oN, dN, esN, epN, slN, e1, e2, e3, e4, e5⟩ := h2
  refine ⟨a, i, ⟨nm, q, N, bs, hdct, sn, sub, ab, col, dd, k0, k1, k2, k3, k5, nid, e1, ?_, e2, e3⟩, ⟨_, l, rfl⟩⟩
  unfold PySem.W.nsOkIn
  rw [e4]
  rw [Array.all_toList] at e5
  exact e5
theorem cal_at {k : Nat} {x : Str} {sp : Sp} {f0 : Addr} (c : C8.Cal P w K mg base k x sp []) (hm : mg x = some (.ref f0)) : C8.CalAt P w K mg base k f0 sp := by
  obtain ⟨f, fd, ps, ds, F, m, kp, b, v⟩ := c.ex
  rw [hm] at m
  cases m
  cases v
  exact ⟨fd, ps, F, kp, b⟩
end
/-! ### error classes: what the top has written -/
theorem OexC.of {K : PySem.W.Frag} {C : Addr} {nm q : Str} {N : Addr} {bs bm : List Value} {sn : List Str} {sub : List Value} {ab : Bool} {col : Option Bool} {dd : Option Addr} {k0 k1 k2 k3 k5 : Option Value} (x : K.lookup C = some (excClassObj nm q C N bs bm true sn sub ab col dd k0 k1 k2 k3 k5 "ValueError.__new__")) (r : PySem.HandSPX.refsVE bm = true)
    (sa : PySem.W.findIn K (.ref C) "__setattr__" = some (some (.builtin "object.__setattr__"))) (exC : PySem.W.subIn K (.ref C) (.type "BaseException") = some true) (tyC : PySem.W.typeIn K (.ref C) = some (.type "type")) (kC : PySem.W.keepIn K (.ref C) = true) : OexC K C :=
  ⟨⟨nm, q, N, bs, bm, sn, sub, ab, col, dd, k0, k1, k2, k3, k5, x, r⟩, sa, exC, tyC, kC⟩
structure ErrF2 (K : PySem.W.Frag) (C : Addr) : Prop where
  sup : PySem.W.ks_superIn K C C "__init__" = some (some (.builtin "ValueError.__init__"))
  sve : PySem.W.subIn K (.ref C) (.type "ValueError") = some true
  mro : PySem.W.mroIn K C (.ref C) = some true
  val : PySem.W.findIn K (.ref C) "value" = some none
  opq : PySem.W.nsIn K cStatics "thirdparty.any" = some none
theorem ErrF2.to {K : PySem.W.Frag} {C : Addr} (h : ErrF2 K C) (o : OexC K C) : ErrF K C := ⟨o, h.sup, h.sve, h.mro, h.val, h.opq⟩
theorem ErrI.of {P : Program} {K : PySem.W.Frag} {C fI : Addr} {qual : Str} {st : Stmt} {oc : Value} {od : Option Addr} {T : Addr} {kV doc pm : Value} {an : Option Addr} {cda cc : Addr} {ct : Value} {osl : Array (Option Value)} {ccl : Value} {cdd : Option Addr} {vs : Array Value} {ccs : Array (Option Value)} {file : Str} {tf : Tok}
    {xcl : Value} {xcd : Option Addr} {xcs : Array (Option Value)} {oT : Obj} {dv : Value} {nT : Nat}
    (l1 : K.lookup fI = some ⟨oc, od, .func (PySem.W.fnX "__init__" qual (C8.fnArgs st) (C8.fnBody st) (C8.fnScope st) [("__class__", cc)] (.ref T) kV doc pm an (.ref cda) ct), osl⟩) (cd : PySem.W.codeIn K (.ref cda) qual = true) (l2 : K.lookup cda = some ⟨ccl, cdd, .fields vs, ccs⟩) (hv : vs[2]? = some (.str file tf)) (hf : ((P.main.file : Str) == file) = true)
    (l3 : K.lookup cc = some ⟨xcl, xcd, .cell (some (.ref C)), xcs⟩) (l4 : K.lookup T = some oT) (dT : oT.data = .seq #[dv] nT) : ErrI P K C fI qual st (PySem.W.fnX "__init__" qual (C8.fnArgs st) (C8.fnBody st) (C8.fnScope st) [("__class__", cc)] (.ref T) kV doc pm an (.ref cda) ct) :=
  ⟨oc, od, T, kV, doc, pm, an, cda, cc, ct, osl, ccl, cdd, vs, ccs, file, tf, xcl, xcd, xcs, oT, dv, nT, rfl, l1, cd, l2, hv, hf, l3, l4, dT⟩
/-! ### the error classes -/
abbrev sClashInit : Stmt := inClass (top 6) 0
theorem mk_Clash {P : Program} {w : World} {K : PySem.W.Frag} {mg : Str → Option Value} {base : Heap} {C fI : Addr} {fd : FuncData} (T : ErrF K C) (W : ErrI P K C fI "Clash.__init__" sClashInit fd) (hs : mg "super" = none) (hm : mg "Clash" = some (.ref C)) (ht : (P.main.scope.names.lookup ("super" : Str)).isSome = false)
    (iC : PySem.W.findIn K (.ref C) "__init__" = some (some (.ref fI))) (tI : PySem.W.typeIn K (.ref fI) = some (.type "function")) : ErrM P w K mg base "Clash" C :=
  ⟨T, hm, fI, fd, iC, tI, err_ok (k := 0) T W hs rfl (NdefX.nscope_by (by decide +kernel)) (by decide +kernel) rfl (fun env => ⟨_, rfl⟩) ht, W.binds fun T cl kV doc pm an cdv ct u1 u2 dv => ⟨_, rfl, rfl⟩⟩
theorem all_mk {P : Program} {w : World} {K : PySem.W.Frag} {h : Heap} {mg : Str → Option Value} {fa CP CB fPi fBi fBw CS CC fCC : Addr} {fdCC : FuncData} {tok : Tok} (X : K.In h) (G : h.Ns mainGlobals mg) (hfa : mg "law" = some (.ref fa))
    (aL : PySem.W.nsIn K mainGlobals "LETTERS" = some (some (.str LT tok)))
    (cP : ClsAt K "Panel" CP)
    (cB : ClsAt K "Book" CB)
    (mPInit : MethAt K CP "__init__" "Panel.__init__" sPanelInit fPi)
    (mBInit : MethAt K CB "__init__" "Book.__init__" sBookInit fBi)
    (mBWithLine : MethAt K CB "with_line" "Book.with_line" sBookWithLine fBw)
    (nP_names : PySem.W.findIn K (.ref CP) "names" = some none)
    (nP_orders : PySem.W.findIn K (.ref CP) "orders" = some none)
    (nP_spots : PySem.W.findIn K (.ref CP) "spots" = some none)
    (nB_names : PySem.W.findIn K (.ref CB) "names" = some none)
    (nB_told : PySem.W.findIn K (.ref CB) "told" = some none)
    (aCS : PySem.W.nsIn K mainGlobals "ShowError" = some (some (.ref CS)))
    (aCC : PySem.W.nsIn K mainGlobals "Clash" = some (some (.ref CC)))
    (eO : OexC K CC)
    (eF : ErrF2 K CC)
    (eI : ErrI P K CC fCC "Clash.__init__" sClashInit fdCC)
    (eC : PySem.W.findIn K (.ref CC) "__init__" = some (some (.ref fCC)))
    (eT : PySem.W.typeIn K (.ref fCC) = some (.type "function"))
    (eK : ErrK K CC)
    (sB : PySem.W.subIn K (.ref CS) (.type "BaseException") = some true)
    (sD : PySem.W.hasDictIn K CS = true)
    (sT : PySem.W.typeIn K (.ref CS) = some (.type "type"))
    (sS : PySem.W.subIn K (.ref CC) (.ref CS) = some true)
    (tP : (P.main.scope.names.lookup ("super" : Str)).isSome = false)
    (z_super : PySem.W.nsIn K mainGlobals "super" = some none)
    (dIsName : DefAt K "is_name" sIsName)
    (dAreNames : DefAt K "are_names" sAreNames)
    (dAreEntries : DefAt K "are_entries" sAreEntries)
    (dIsAscending : DefAt K "is_ascending" sIsAscending)
    (dIsLot : DefAt K "is_lot" sIsLot)
    (dIsField : DefAt K "is_field" sIsField)
    (dCheckEntries : DefAt K "check_entries" sCheckEntries)
    (dCheckField : DefAt K "check_field" sCheckField)
    (dSpotsOf : DefAt K "spots_of" sSpotsOf)
    (dIsRow : DefAt K "is_row" sIsRow)
    (dAreRows : DefAt K "are_rows" sAreRows)
    (dIsLine : DefAt K "is_line" sIsLine)
    (dCopied : DefAt K "copied" sCopied)
    (dCheckBook : DefAt K "check_book" sCheckBook)
    (dOffsOf : DefAt K "offs_of" sOffsOf)
    (dWalked : DefAt K "walked" sWalked)
    (dCallsOf : DefAt K "calls_of" sCallsOf)
    (dBarOf : DefAt K "bar_of" sBarOf)
    (dPanelThatKeeps : DefAt K "panel_that_keeps" sPanelThatKeeps)
    (dSomePanel : DefAt K "some_panel" sSomePanel)
    (dContraryOf : DefAt K "contrary_of" sContraryOf)
    (dCheckLine : DefAt K "check_line" sCheckLine)
    (dIsImplied : DefAt K "is_implied" sIsImplied)
    (dFollows : DefAt K "follows" sFollows)
    (dIsRound : DefAt K "is_round" sIsRound)
    (dCheckRounds : DefAt K "check_rounds" sCheckRounds)
    (dOthersOf : DefAt K "others_of" sOthersOf)
    (dRoundsBook : DefAt K "rounds_book" sRoundsBook)
    (dBookOfRounds : DefAt K "book_of_rounds" sBookOfRounds)
    (dFittingBook : DefAt K "fitting_book" sFittingBook)
    (dWordOf : DefAt K "word_of" sWordOf)
    (dVerdict : DefAt K "verdict" sVerdict)
    (dLawPurse : DefAt K "_law_purse" sLawPurse)
    (dLawMixed : DefAt K "_law_mixed" sLawMixed)
    (dLawDraw : DefAt K "_law_draw" sLawDraw)
    (dLawPurses : DefAt K "_law_purses" sLawPurses)
    (dLawShuffled : DefAt K "_law_shuffled" sLawShuffled)
    (dLawWord : DefAt K "_law_word" sLawWord)
    (dLawNames : DefAt K "_law_names" sLawNames)
    (dLawRowsOf : DefAt K "_law_rows_of" sLawRowsOf)
    (dLawCards : DefAt K "_law_cards" sLawCards)
    (dLawFields : DefAt K "_law_fields" sLawFields)
    (dLawTaken : DefAt K "_law_taken" sLawTaken)
    (dLawSomeRows : DefAt K "_law_some_rows" sLawSomeRows)
    (dLawContrary : DefAt K "_law_contrary" sLawContrary)
    (dLawFollows : DefAt K "_law_follows" sLawFollows)
    (dLawAllRows : DefAt K "_law_all_rows" sLawAllRows)
    (dLawAllPanels : DefAt K "_law_all_panels" sLawAllPanels)
    (dLawRounds : DefAt K "_law_rounds" sLawRounds)
    (dLawRoundLines : DefAt K "_law_round_lines" sLawRoundLines)
    (dLawVerdict : DefAt K "_law_verdict" sLawVerdict)
    (dLawSeen : DefAt K "_law_seen" sLawSeen)
    (dLawGreatSeen : DefAt K "_law_great_seen" sLawGreatSeen)
    (dLawTold : DefAt K "_law_told" sLawTold)
    (dLawByAll : DefAt K "_law_by_all" sLawByAll)
    (dLawHiddenRight : DefAt K "_law_hidden_right" sLawHiddenRight)
    (dLaw : DefAt K "law" sLaw)
    (z_isinstance : PySem.W.nsIn K mainGlobals "isinstance" = some none)
    (z_len : PySem.W.nsIn K mainGlobals "len" = some none)
    (z_set : PySem.W.nsIn K mainGlobals "set" = some none)
    (z_list : PySem.W.nsIn K mainGlobals "list" = some none)
    (z_dict : PySem.W.nsIn K mainGlobals "dict" = some none)
    (z_tuple : PySem.W.nsIn K mainGlobals "tuple" = some none)
    (z_str : PySem.W.nsIn K mainGlobals "str" = some none)
    (z_int : PySem.W.nsIn K mainGlobals "int" = some none)
    (z_bool : PySem.W.nsIn K mainGlobals "bool" = some none)
    (z_sorted : PySem.W.nsIn K mainGlobals "sorted" = some none)
    (z_range : PySem.W.nsIn K mainGlobals "range" = some none)
    (z_enumerate : PySem.W.nsIn K mainGlobals "enumerate" = some none)
    (z_zip : PySem.W.nsIn K mainGlobals "zip" = some none)
    (z_sum : PySem.W.nsIn K mainGlobals "sum" = some none)
    (z_max : PySem.W.nsIn K mainGlobals "max" = some none)
    (z_min : PySem.W.nsIn K mainGlobals "min" = some none)
    (z_repr : PySem.W.nsIn K mainGlobals "repr" = some none)
    : ∃ fd : FuncData, (∀ (s : Shared) (v : Value), BindsTo s fd ⟨[v], []⟩ [("script", v)]) ∧ ∀ base : Heap, K.In base → base.Ns mainGlobals mg → FnG P w K mg base 15 fa fd ["script"] (PLaw K) := by
  have B : Bt mg := ⟨PySem.W.mg_none_of X G z_isinstance, PySem.W.mg_none_of X G z_len, PySem.W.mg_none_of X G z_set, PySem.W.mg_none_of X G z_list, PySem.W.mg_none_of X G z_dict, PySem.W.mg_none_of X G z_tuple, PySem.W.mg_none_of X G z_str, PySem.W.mg_none_of X G z_int, PySem.W.mg_none_of X G z_bool, PySem.W.mg_none_of X G z_sorted, PySem.W.mg_none_of X G z_range, PySem.W.mg_none_of X G z_enumerate, PySem.W.mg_none_of X G z_zip, PySem.W.mg_none_of X G z_sum, PySem.W.mg_none_of X G z_max, PySem.W.mg_none_of X G z_min⟩
  have TP : PanT K mg CP := ⟨cP.cls, nP_names, nP_orders, nP_spots, PySem.W.mg_of X G cP.aC, cP.isi⟩
  have TB : BkT K mg CB := ⟨cB.cls, nB_names, nB_told, PySem.W.mg_of X G cB.aC, cB.isi⟩
  obtain ⟨gmPInit, FmPInit, MmPInit, bmPInit⟩ := mPInit.at ["self", "entries", "rows"] (fun _ _ _ _ _ _ us hl => match us, hl with | [_, _, _], _ => rfl)
  obtain ⟨gmBInit, FmBInit, MmBInit, bmBInit⟩ := mBInit.at ["self", "entries", "lines"] (fun _ _ _ _ _ _ us hl => match us, hl with | [_, _, _], _ => rfl)
  obtain ⟨gmBWithLine, FmBWithLine, MmBWithLine, bmBWithLine⟩ := mBWithLine.at ["self", "line"] (fun _ _ _ _ _ _ us hl => match us, hl with | [_, _], _ => rfl)
  obtain ⟨fIsName, gIsName, DIsName, bIsName⟩ := dIsName.at X G ["value"] (fun _ _ _ _ _ _ us hl => match us, hl with | [_], _ => rfl)
  obtain ⟨fAreNames, gAreNames, DAreNames, bAreNames⟩ := dAreNames.at X G ["value"] (fun _ _ _ _ _ _ us hl => match us, hl with | [_], _ => rfl)
  obtain ⟨fAreEntries, gAreEntries, DAreEntries, bAreEntries⟩ := dAreEntries.at X G ["value"] (fun _ _ _ _ _ _ us hl => match us, hl with | [_], _ => rfl)
  obtain ⟨fIsAscending, gIsAscending, DIsAscending, bIsAscending⟩ := dIsAscending.at X G ["value"] (fun _ _ _ _ _ _ us hl => match us, hl with | [_], _ => rfl)
  obtain ⟨fIsLot, gIsLot, DIsLot, bIsLot⟩ := dIsLot.at X G ["value", "entries"] (fun _ _ _ _ _ _ us hl => match us, hl with | [_, _], _ => rfl)
  obtain ⟨fIsField, gIsField, DIsField, bIsField⟩ := dIsField.at X G ["value", "entries"] (fun _ _ _ _ _ _ us hl => match us, hl with | [_, _], _ => rfl)
  obtain ⟨fCheckEntries, gCheckEntries, DCheckEntries, bCheckEntries⟩ := dCheckEntries.at X G ["value"] (fun _ _ _ _ _ _ us hl => match us, hl with | [_], _ => rfl)
  obtain ⟨fCheckField, gCheckField, DCheckField, bCheckField⟩ := dCheckField.at X G ["value", "entries"] (fun _ _ _ _ _ _ us hl => match us, hl with | [_, _], _ => rfl)
  obtain ⟨fSpotsOf, gSpotsOf, DSpotsOf, bSpotsOf⟩ := dSpotsOf.at X G ["row"] (fun _ _ _ _ _ _ us hl => match us, hl with | [_], _ => rfl)
  obtain ⟨fIsRow, gIsRow, DIsRow, bIsRow⟩ := dIsRow.at X G ["value", "entries"] (fun _ _ _ _ _ _ us hl => match us, hl with | [_, _], _ => rfl)
  obtain ⟨fAreRows, gAreRows, DAreRows, bAreRows⟩ := dAreRows.at X G ["value", "entries"] (fun _ _ _ _ _ _ us hl => match us, hl with | [_, _], _ => rfl)
  obtain ⟨fIsLine, gIsLine, DIsLine, bIsLine⟩ := dIsLine.at X G ["value", "names"] (fun _ _ _ _ _ _ us hl => match us, hl with | [_, _], _ => rfl)
  obtain ⟨fCopied, gCopied, DCopied, bCopied⟩ := dCopied.at X G ["line"] (fun _ _ _ _ _ _ us hl => match us, hl with | [_], _ => rfl)
  obtain ⟨fCheckBook, gCheckBook, DCheckBook, bCheckBook⟩ := dCheckBook.at X G ["value"] (fun _ _ _ _ _ _ us hl => match us, hl with | [_], _ => rfl)
  obtain ⟨fOffsOf, gOffsOf, DOffsOf, bOffsOf⟩ := dOffsOf.at X G ["book", "wishes"] (fun _ _ _ _ _ _ us hl => match us, hl with | [_, _], _ => rfl)
  obtain ⟨fWalked, gWalked, DWalked, bWalked⟩ := dWalked.at X G ["names", "offs"] (fun _ _ _ _ _ _ us hl => match us, hl with | [_, _], _ => rfl)
  obtain ⟨fCallsOf, gCallsOf, DCallsOf, bCallsOf⟩ := dCallsOf.at X G ["book"] (fun _ _ _ _ _ _ us hl => match us, hl with | [_], _ => rfl)
  obtain ⟨fBarOf, gBarOf, DBarOf, bBarOf⟩ := dBarOf.at X G ["book"] (fun _ _ _ _ _ _ us hl => match us, hl with | [_], _ => rfl)
  obtain ⟨fPanelThatKeeps, gPanelThatKeeps, DPanelThatKeeps, bPanelThatKeeps⟩ := dPanelThatKeeps.at X G ["book"] (fun _ _ _ _ _ _ us hl => match us, hl with | [_], _ => rfl)
  obtain ⟨fSomePanel, gSomePanel, DSomePanel, bSomePanel⟩ := dSomePanel.at X G ["book"] (fun _ _ _ _ _ _ us hl => match us, hl with | [_], _ => rfl)
  obtain ⟨fContraryOf, gContraryOf, DContraryOf, bContraryOf⟩ := dContraryOf.at X G ["line"] (fun _ _ _ _ _ _ us hl => match us, hl with | [_], _ => rfl)
  obtain ⟨fCheckLine, gCheckLine, DCheckLine, bCheckLine⟩ := dCheckLine.at X G ["book", "line"] (fun _ _ _ _ _ _ us hl => match us, hl with | [_, _], _ => rfl)
  obtain ⟨fIsImplied, gIsImplied, DIsImplied, bIsImplied⟩ := dIsImplied.at X G ["book", "line"] (fun _ _ _ _ _ _ us hl => match us, hl with | [_, _], _ => rfl)
  obtain ⟨fFollows, gFollows, DFollows, bFollows⟩ := dFollows.at X G ["book", "line"] (fun _ _ _ _ _ _ us hl => match us, hl with | [_, _], _ => rfl)
  obtain ⟨fIsRound, gIsRound, DIsRound, bIsRound⟩ := dIsRound.at X G ["value", "entries"] (fun _ _ _ _ _ _ us hl => match us, hl with | [_, _], _ => rfl)
  obtain ⟨fCheckRounds, gCheckRounds, DCheckRounds, bCheckRounds⟩ := dCheckRounds.at X G ["value", "entries"] (fun _ _ _ _ _ _ us hl => match us, hl with | [_, _], _ => rfl)
  obtain ⟨fOthersOf, gOthersOf, DOthersOf, bOthersOf⟩ := dOthersOf.at X G ["field", "entry"] (fun _ _ _ _ _ _ us hl => match us, hl with | [_, _], _ => rfl)
  obtain ⟨fRoundsBook, gRoundsBook, DRoundsBook, bRoundsBook⟩ := dRoundsBook.at X G ["entries", "rounds"] (fun _ _ _ _ _ _ us hl => match us, hl with | [_, _], _ => rfl)
  obtain ⟨fBookOfRounds, gBookOfRounds, DBookOfRounds, bBookOfRounds⟩ := dBookOfRounds.at X G ["entries", "rounds"] (fun _ _ _ _ _ _ us hl => match us, hl with | [_, _], _ => rfl)
  obtain ⟨fFittingBook, gFittingBook, DFittingBook, bFittingBook⟩ := dFittingBook.at X G ["entries", "rounds"] (fun _ _ _ _ _ _ us hl => match us, hl with | [_, _], _ => rfl)
  obtain ⟨fWordOf, gWordOf, DWordOf, bWordOf⟩ := dWordOf.at X G ["book", "field", "entry"] (fun _ _ _ _ _ _ us hl => match us, hl with | [_, _, _], _ => rfl)
  obtain ⟨fVerdict, gVerdict, DVerdict, bVerdict⟩ := dVerdict.at X G ["entries", "rounds", "field"] (fun _ _ _ _ _ _ us hl => match us, hl with | [_, _, _], _ => rfl)
  obtain ⟨fLawPurse, gLawPurse, DLawPurse, bLawPurse⟩ := dLawPurse.at X G ["script", "at"] (fun _ _ _ _ _ _ us hl => match us, hl with | [_, _], _ => rfl)
  obtain ⟨fLawMixed, gLawMixed, DLawMixed, bLawMixed⟩ := dLawMixed.at X G ["seed", "turn", "at"] (fun _ _ _ _ _ _ us hl => match us, hl with | [_, _, _], _ => rfl)
  obtain ⟨fLawDraw, gLawDraw, DLawDraw, bLawDraw⟩ := dLawDraw.at X G ["purse", "many"] (fun _ _ _ _ _ _ us hl => match us, hl with | [_, _], _ => rfl)
  obtain ⟨fLawPurses, gLawPurses, DLawPurses, bLawPurses⟩ := dLawPurses.at X G ["script", "few"] (fun _ _ _ _ _ _ us hl => match us, hl with | [_, _], _ => rfl)
  obtain ⟨fLawShuffled, gLawShuffled, DLawShuffled, bLawShuffled⟩ := dLawShuffled.at X G ["purse", "some"] (fun _ _ _ _ _ _ us hl => match us, hl with | [_, _], _ => rfl)
  obtain ⟨fLawWord, gLawWord, DLawWord, bLawWord⟩ := dLawWord.at X G ["purse"] (fun _ _ _ _ _ _ us hl => match us, hl with | [_], _ => rfl)
  obtain ⟨fLawNames, gLawNames, DLawNames, bLawNames⟩ := dLawNames.at X G ["purse", "many"] (fun _ _ _ _ _ _ us hl => match us, hl with | [_, _], _ => rfl)
  obtain ⟨fLawRowsOf, gLawRowsOf, DLawRowsOf, bLawRowsOf⟩ := dLawRowsOf.at X G ["purse", "names", "many"] (fun _ _ _ _ _ _ us hl => match us, hl with | [_, _, _], _ => rfl)
  obtain ⟨fLawCards, gLawCards, DLawCards, bLawCards⟩ := dLawCards.at X G ["rows", "field"] (fun _ _ _ _ _ _ us hl => match us, hl with | [_, _], _ => rfl)
  obtain ⟨fLawFields, gLawFields, DLawFields, bLawFields⟩ := dLawFields.at X G ["names"] (fun _ _ _ _ _ _ us hl => match us, hl with | [_], _ => rfl)
  obtain ⟨fLawTaken, gLawTaken, DLawTaken, bLawTaken⟩ := dLawTaken.at X G ["names", "lines", "wishes"] (fun _ _ _ _ _ _ us hl => match us, hl with | [_, _, _], _ => rfl)
  obtain ⟨fLawSomeRows, gLawSomeRows, DLawSomeRows, bLawSomeRows⟩ := dLawSomeRows.at X G ["names", "lines"] (fun _ _ _ _ _ _ us hl => match us, hl with | [_, _], _ => rfl)
  obtain ⟨fLawContrary, gLawContrary, DLawContrary, bLawContrary⟩ := dLawContrary.at X G ["line"] (fun _ _ _ _ _ _ us hl => match us, hl with | [_], _ => rfl)
  obtain ⟨fLawFollows, gLawFollows, DLawFollows, bLawFollows⟩ := dLawFollows.at X G ["names", "lines", "line"] (fun _ _ _ _ _ _ us hl => match us, hl with | [_, _, _], _ => rfl)
  obtain ⟨fLawAllRows, gLawAllRows, DLawAllRows, bLawAllRows⟩ := dLawAllRows.at X G ["names"] (fun _ _ _ _ _ _ us hl => match us, hl with | [_], _ => rfl)
  obtain ⟨fLawAllPanels, gLawAllPanels, DLawAllPanels, bLawAllPanels⟩ := dLawAllPanels.at X G ["names"] (fun _ _ _ _ _ _ us hl => match us, hl with | [_], _ => rfl)
  obtain ⟨fLawRounds, gLawRounds, DLawRounds, bLawRounds⟩ := dLawRounds.at X G ["purse", "names", "rows", "many"] (fun _ _ _ _ _ _ us hl => match us, hl with | [_, _, _, _], _ => rfl)
  obtain ⟨fLawRoundLines, gLawRoundLines, DLawRoundLines, bLawRoundLines⟩ := dLawRoundLines.at X G ["rounds"] (fun _ _ _ _ _ _ us hl => match us, hl with | [_], _ => rfl)
  obtain ⟨fLawVerdict, gLawVerdict, DLawVerdict, bLawVerdict⟩ := dLawVerdict.at X G ["names", "rounds", "field"] (fun _ _ _ _ _ _ us hl => match us, hl with | [_, _, _], _ => rfl)
  obtain ⟨fLawSeen, gLawSeen, DLawSeen, bLawSeen⟩ := dLawSeen.at X G ["purse", "most", "many"] (fun _ _ _ _ _ _ us hl => match us, hl with | [_, _, _], _ => rfl)
  obtain ⟨fLawGreatSeen, gLawGreatSeen, DLawGreatSeen, bLawGreatSeen⟩ := dLawGreatSeen.at X G ["purse"] (fun _ _ _ _ _ _ us hl => match us, hl with | [_], _ => rfl)
  obtain ⟨fLawTold, gLawTold, DLawTold, bLawTold⟩ := dLawTold.at X G ["names", "rounds", "field"] (fun _ _ _ _ _ _ us hl => match us, hl with | [_, _, _], _ => rfl)
  obtain ⟨fLawByAll, gLawByAll, DLawByAll, bLawByAll⟩ := dLawByAll.at X G ["names", "rounds", "field"] (fun _ _ _ _ _ _ us hl => match us, hl with | [_, _, _], _ => rfl)
  obtain ⟨fLawHiddenRight, gLawHiddenRight, DLawHiddenRight, bLawHiddenRight⟩ := dLawHiddenRight.at X G ["rows", "rounds", "field", "told"] (fun _ _ _ _ _ _ us hl => match us, hl with | [_, _, _, _], _ => rfl)
  obtain ⟨fl, oc, od, kV, dc, pm, an, cd, ct, sl, al, ll, cl, kl⟩ := dLaw
  have e := hfa.symm.trans (PySem.W.mg_of X G al)
  cases e
  have Fl : C8.Fun K "law" "law" sLaw fa (PySem.W.fnOf "law" "law" (C8.fnArgs sLaw) (C8.fnBody sLaw) (C8.fnScope sLaw) .none kV dc pm an cd ct) := ⟨oc, od, .none, kV, dc, pm, an, cd, ct, sl, rfl, ll, cl⟩
  refine ⟨PySem.W.fnOf "law" "law" (C8.fnArgs sLaw) (C8.fnBody sLaw) (C8.fnScope sLaw) .none kV dc pm an cd ct, fun s v => .of_eq rfl, fun base _ _ => ?_⟩
  have c1 := c_is_name (P := P) (w := w) (base := base) DIsName bIsName B (PySem.W.mg_of X G aL)
  have c2 := c_are_names (P := P) (w := w) (base := base) DAreNames bAreNames B c1
  have c3 := c_are_entries (P := P) (w := w) (base := base) DAreEntries bAreEntries c2
  have c4 := c_is_ascending (P := P) (w := w) (base := base) DIsAscending bIsAscending B c2
  have c5 := c_is_lot (P := P) (w := w) (base := base) DIsLot bIsLot c4
  have c6 := c_is_field (P := P) (w := w) (base := base) DIsField bIsField c5
  have c7 := c_check_entries (P := P) (w := w) (base := base) DCheckEntries bCheckEntries c3
  have c8 := c_spots_of (P := P) (w := w) (base := base) DSpotsOf bSpotsOf B
  have c9 := c_is_row (P := P) (w := w) (base := base) DIsRow bIsRow B c2
  have c10 := c_are_rows (P := P) (w := w) (base := base) DAreRows bAreRows B c9
  have p1 := m_panel (P := P) (w := w) (base := base) FmPInit bmPInit ⟨cP.mks, MmPInit.at_, MmPInit.fn, cP.kp⟩ B TP c7 c10 c8
  have hR : mg "repr" = none := PySem.W.mg_none_of X G z_repr
  have c12 := c_is_line (P := P) (w := w) (base := base) DIsLine bIsLine B c6 c1
  have c13f := c_copiedF (P := P) (w := w) (base := base) DCopied bCopied B
  have q1 := m_bookF (P := P) (w := w) (base := base) FmBInit bmBInit ⟨cB.mks, MmBInit.at_, MmBInit.fn, cB.kp⟩ B TB c3 c12 c13f
  have q2 := m_with_line (P := P) (w := w) (base := base) FmBWithLine bmBWithLine MmBWithLine TB c12 q1
  have c14 := c_check_book (P := P) (w := w) (base := base) DCheckBook bCheckBook B TB
  have k6 := c_offs_of (P := P) (w := w) (base := base) DOffsOf bOffsOf TB
  have k7f := c_walkedF (P := P) (w := w) (base := base) DWalked bWalked B
  have k7 := c_walked k7f
  have k8 := c_calls_of (P := P) (w := w) (base := base) DCallsOf bCallsOf TB
  have k9f := c_bar_ofF (P := P) (w := w) (base := base) DBarOf bBarOf B TB k6 k7f k8 c13f
  have k9 := c_bar_of k9f
  have k10 := c_panel_that_keeps (P := P) (w := w) (base := base) DPanelThatKeeps bPanelThatKeeps TB k6 k7 k8 p1
  have k11 := c_some_panel (P := P) (w := w) (base := base) DSomePanel bSomePanel c14 k9 k10
  have k12 := c_is_round (P := P) (w := w) (base := base) DIsRound bIsRound B c6
  have k13 := c_check_rounds (P := P) (w := w) (base := base) DCheckRounds bCheckRounds B k12
  have k14 := c_rounds_book (P := P) (w := w) (base := base) DRoundsBook bRoundsBook B q1
  have k15 := c_book_of_rounds (P := P) (w := w) (base := base) DBookOfRounds bBookOfRounds c7 k13 k14
  have e1 := c_check_field (P := P) (w := w) (base := base) DCheckField bCheckField c6
  have i1 := c_contrary_of (P := P) (w := w) (base := base) DContraryOf bContraryOf B
  have i2 := c_check_line (P := P) (w := w) (base := base) DCheckLine bCheckLine TB c14 c12
  have i3 := c_is_implied (P := P) (w := w) (base := base) DIsImplied bIsImplied TB i1 k9 q2
  have i4 := c_follows (P := P) (w := w) (base := base) DFollows bFollows i2 i3
  have v1 := c_others_of (P := P) (w := w) (base := base) DOthersOf bOthersOf
  have v2 := c_word_of (P := P) (w := w) (base := base) DWordOf bWordOf B i4 v1
  have eF2 := eF.to eO
  have mC := mk_Clash (P := P) (w := w) (base := base) eF2 eI (PySem.W.mg_none_of X G z_super) (PySem.W.mg_of X G aCC) tP eC eT
  have v3 := c_fitting_book (P := P) (w := w) (base := base) DFittingBook bFittingBook mC k15 k11
  have v4 := c_verdict (P := P) (w := w) (base := base) DVerdict bVerdict v3 e1 v2
  have v5 := v4.cal (sp' := PVer0) ver0
  have d1 := c_law_purse (P := P) (w := w) (base := base) DLawPurse bLawPurse B
  have d2 := c_law_mixed (P := P) (w := w) (base := base) DLawMixed bLawMixed
  have d3 := c_law_draw (P := P) (w := w) (base := base) DLawDraw bLawDraw B d2
  have d4 := c_purses (P := P) (w := w) (base := base) DLawPurses bLawPurses B d1
  have d5 := c_shuffled (α := Str) (P := P) (w := w) (base := base) DLawShuffled bLawShuffled B d3
  have d7 := c_word (P := P) (w := w) (base := base) DLawWord bLawWord B d3
  have d8 := c_names (P := P) (w := w) (base := base) DLawNames bLawNames B d7 d5
  have d9 := c_rows_law (P := P) (w := w) (base := base) DLawRowsOf bLawRowsOf B d3 d5
  have l1 := c_law_cards (P := P) (w := w) (base := base) DLawCards bLawCards B
  have l2 := c_law_fields (P := P) (w := w) (base := base) DLawFields bLawFields
  have l3 := c_law_taken (P := P) (w := w) (base := base) DLawTaken bLawTaken B
  have l4 := c_law_some_rows (P := P) (w := w) (base := base) DLawSomeRows bLawSomeRows B l3
  have l5 := c_law_contrary (P := P) (w := w) (base := base) DLawContrary bLawContrary B
  have l6f := c_law_follows (P := P) (w := w) (base := base) DLawFollows bLawFollows l5 l4
  have l6 := c_law_rounds (P := P) (w := w) (base := base) DLawRounds bLawRounds B d3 d5 l1
  have l7 := c_law_round_lines (P := P) (w := w) (base := base) DLawRoundLines bLawRoundLines B
  have l8 := c_law_seen (P := P) (w := w) (base := base) DLawSeen bLawSeen d3 d8 d9 l6
  have l9 := c_law_all_rows (P := P) (w := w) (base := base) DLawAllRows bLawAllRows B
  have l10 := c_law_all_panels (P := P) (w := w) (base := base) DLawAllPanels bLawAllPanels l9
  have l11 := c_law_verdict (P := P) (w := w) (base := base) DLawVerdict bLawVerdict l7 l6f
  have l12 := c_law_by_all (P := P) (w := w) (base := base) DLawByAll bLawByAll l10 l1
  have l13 := c_law_hidden (P := P) (w := w) (base := base) DLawHiddenRight bLawHiddenRight l1
  have l14 := c_law_great (P := P) (w := w) (base := base) DLawGreatSeen bLawGreatSeen B d3 d5 d9 l1
  have l15 := c_law_told (P := P) (w := w) (base := base) DLawTold bLawTold B (PySem.W.mg_of X G aCS) (PySem.W.mg_of X G aCC) eK eF.val (PySem.W.exm_ref sB sD sT sS) (if_pos (beq_self_eq_true _)) v4
  exact law_fn Fl B hR d4 l8 d1 l14 d5 d3 l15 l11 l13 l12 v5 l4 l7 l2
theorem walk {l : PySem.W.OpenLaw} {q : Program} {loose : List Str} {XP : (Str → Option Value) → Heap → Prop} {YP : World → Heap → Prop} {d : DefRec} {K : Params → PySem.W.Frag} (hn : l.most = some 63) (hdf : d.params.defaults = [])
    (hY : ∀ (w : World) (h : Heap), YP w h → (K w.params).In h)
    (F : ∀ (w : World) (mg : Str → Option Value) (fa : Addr) (h : Heap), (K w.params).In h → h.Ns mainGlobals mg → mg d.name = some (.ref fa) →
      ∃ fd : FuncData, (∀ (s : Shared) (u : Value), BindsTo s fd ⟨[u], []⟩ [("script", u)]) ∧ ∀ base : Heap, (K w.params).In base → base.Ns mainGlobals mg → FnG l.prog w (K w.params) mg base 15 fa fd ["script"] (PLaw (K w.params))) :
    PySem.W.WalkO q loose XP YP l.row.toRowW d [] (fun f vs => PySem.call f vs) :=
  walk_ofG (n := 63) (k := 15) (x := "script") (sp := fun w => PLaw (K w.params)) hn (by decide) hdf ⟨rfl, by decide, by decide⟩ hY F (fun _ H a ns hl hS => ⟨H, .ref a, ⟨ns⟩, rfl, Same.refl H, ⟨a, rfl, hS⟩, fun _ => rfl⟩)
end T82

open PySem PySem.W PyProof.Rows
set_option maxRecDepth 100000 in
set_option maxHeartbeats 0 in
theorem PySem.Challenge.cw_panelfairs_k82_whole_verdicts_holds : PySem.Challenge.rw_panelfairs_k82_whole_verdicts.Holds := by
  w_on; o_law; k_head; (case hw => w_witness2)
  k_fill
  refine T82.walk (l := PySem.Challenge.rw_panelfairs_k82_whole_verdicts) rfl rfl (fun w h Y => PySem.W.kIn_of Y) ?F
  case F =>
    intro w mg fa h KX G hmg
    refine' T82.all_mk KX G hmg ?aL ?cP ?cB ?mPInit ?mBInit ?mBWithLine ?nP_names ?nP_orders ?nP_spots ?nB_names ?nB_told ?aCS ?aCC ?eO ?eF ?eI ?eC ?eT ?eK ?sB ?sD ?sT ?sS ?tP ?z_super ?dIsName ?dAreNames ?dAreEntries ?dIsAscending ?dIsLot ?dIsField ?dCheckEntries ?dCheckField ?dSpotsOf ?dIsRow ?dAreRows ?dIsLine ?dCopied ?dCheckBook ?dOffsOf ?dWalked ?dCallsOf ?dBarOf ?dPanelThatKeeps ?dSomePanel ?dContraryOf ?dCheckLine ?dIsImplied ?dFollows ?dIsRound ?dCheckRounds ?dOthersOf ?dRoundsBook ?dBookOfRounds ?dFittingBook ?dWordOf ?dVerdict ?dLawPurse ?dLawMixed ?dLawDraw ?dLawPurses ?dLawShuffled ?dLawWord ?dLawNames ?dLawRowsOf ?dLawCards ?dLawFields ?dLawTaken ?dLawSomeRows ?dLawContrary ?dLawFollows ?dLawAllRows ?dLawAllPanels ?dLawRounds ?dLawRoundLines ?dLawVerdict ?dLawSeen ?dLawGreatSeen ?dLawTold ?dLawByAll ?dLawHiddenRight ?dLaw ?z_isinstance ?z_len ?z_set ?z_list ?z_dict ?z_tuple ?z_str ?z_int ?z_bool ?z_sorted ?z_range ?z_enumerate ?z_zip ?z_sum ?z_max ?z_min ?z_repr
    (case aL => k_is)
    case cP =>
      refine' T82.ClsAt.mk ?aC ?pg ?hd ?po ?sa ?mks ?kp ?ha ?hn ?htk ?hm
      (case aC => k_is)
      (case pg => k_is)
      (case hd => k_is)
      (case po => k_is)
      (case sa => k_is)
      (case mks => k_is)
      (case kp => k_is)
      (case ha => k_is)
      (case hn => k_is)
      (case htk => k_is)
      (case hm => k_is)
    case cB =>
      refine' T82.ClsAt.mk ?aC ?pg ?hd ?po ?sa ?mks ?kp ?ha ?hn ?htk ?hm
      (case aC => k_is)
      (case pg => k_is)
      (case hd => k_is)
      (case po => k_is)
      (case sa => k_is)
      (case mks => k_is)
      (case kp => k_is)
      (case ha => k_is)
      (case hn => k_is)
      (case htk => k_is)
      (case hm => k_is)
    case mPInit =>
      refine' T82.MethAt.of ?a ?i ?l ?c ?k
      (case a => k_is)
      (case i => k_is)
      (case l => k_is)
      (case c => k_is)
      (case k => k_is)
    case mBInit =>
      refine' T82.MethAt.of ?a ?i ?l ?c ?k
      (case a => k_is)
      (case i => k_is)
      (case l => k_is)
      (case c => k_is)
      (case k => k_is)
    case mBWithLine =>
      refine' T82.MethAt.of ?a ?i ?l ?c ?k
      (case a => k_is)
      (case i => k_is)
      (case l => k_is)
      (case c => k_is)
      (case k => k_is)
    (case nP_names => k_is)
    (case nP_orders => k_is)
    (case nP_spots => k_is)
    (case nB_names => k_is)
    (case nB_told => k_is)
    (case aCS => k_is)
    (case aCC => k_is)
    case eO =>
      refine' T82.OexC.of ?x ?r ?sa ?exC ?tyC ?kC
      (case x => k_is)
      (case r => first | rfl | decide)
      (case sa => k_is)
      (case exC => k_is)
      (case tyC => k_is)
      (case kC => k_is)
    case eF =>
      refine' T82.ErrF2.mk ?sup ?sve ?mro ?val ?opq
      (case sup => ks_is)
      (case sve => k_is)
      (case mro => k_is)
      (case val => k_is)
      (case opq => k_is)
    (case eC => k_is)
    case eI =>
      refine' T82.ErrI.of ?l1 ?cd ?l2 ?hv ?hf ?l3 ?l4 ?dT
      (case l1 => k_is)
      (case cd => k_is)
      (case l2 => k_is)
      (case hv => rfl)
      (case hf => first | rfl | decide)
      (case l3 => k_is)
      (case l4 => k_is)
      (case dT => rfl)
    (case eT => k_is)
    case eK =>
      refine' D1.ErrK.mk ?ga ?gg ?exC ?hd ?ha ?hn ?ht ?hm
      (case ga => k_is)
      (case gg => k_is)
      (case exC => k_is)
      (case hd => k_is)
      (case ha => k_is)
      (case hn => k_is)
      (case ht => k_is)
      (case hm => k_is)
    (case sB => k_is)
    (case sD => k_is)
    (case sT => k_is)
    (case sS => k_is)
    (case tP => first | rfl | decide)
    (case z_super => k_is)
    case dIsName =>
      refine' T82.DefAt.of ?a ?l ?c ?k
      (case a => k_is)
      (case l => k_is)
      (case c => k_is)
      (case k => k_is)
    case dAreNames =>
      refine' T82.DefAt.of ?a ?l ?c ?k
      (case a => k_is)
      (case l => k_is)
      (case c => k_is)
      (case k => k_is)
    case dAreEntries =>
      refine' T82.DefAt.of ?a ?l ?c ?k
      (case a => k_is)
      (case l => k_is)
      (case c => k_is)
      (case k => k_is)
    case dIsAscending =>
      refine' T82.DefAt.of ?a ?l ?c ?k
      (case a => k_is)
      (case l => k_is)
      (case c => k_is)
      (case k => k_is)
    case dIsLot =>
      refine' T82.DefAt.of ?a ?l ?c ?k
      (case a => k_is)
      (case l => k_is)
      (case c => k_is)
      (case k => k_is)
    case dIsField =>
      refine' T82.DefAt.of ?a ?l ?c ?k
      (case a => k_is)
      (case l => k_is)
      (case c => k_is)
      (case k => k_is)
    case dCheckEntries =>
      refine' T82.DefAt.of ?a ?l ?c ?k
      (case a => k_is)
      (case l => k_is)
      (case c => k_is)
      (case k => k_is)
    case dCheckField =>
      refine' T82.DefAt.of ?a ?l ?c ?k
      (case a => k_is)
      (case l => k_is)
      (case c => k_is)
      (case k => k_is)
    case dSpotsOf =>
      refine' T82.DefAt.of ?a ?l ?c ?k
      (case a => k_is)
      (case l => k_is)
      (case c => k_is)
      (case k => k_is)
    case dIsRow =>
      refine' T82.DefAt.of ?a ?l ?c ?k
      (case a => k_is)
      (case l => k_is)
      (case c => k_is)
      (case k => k_is)
    case dAreRows =>
      refine' T82.DefAt.of ?a ?l ?c ?k
      (case a => k_is)
      (case l => k_is)
      (case c => k_is)
      (case k => k_is)
    case dIsLine =>
      refine' T82.DefAt.of ?a ?l ?c ?k
      (case a => k_is)
      (case l => k_is)
      (case c => k_is)
      (case k => k_is)
    case dCopied =>
      refine' T82.DefAt.of ?a ?l ?c ?k
      (case a => k_is)
      (case l => k_is)
      (case c => k_is)
      (case k => k_is)
    case dCheckBook =>
      refine' T82.DefAt.of ?a ?l ?c ?k
      (case a => k_is)
      (case l => k_is)
      (case c => k_is)
      (case k => k_is)
    case dOffsOf =>
      refine' T82.DefAt.of ?a ?l ?c ?k
      (case a => k_is)
      (case l => k_is)
      (case c => k_is)
      (case k => k_is)
    case dWalked =>
      refine' T82.DefAt.of ?a ?l ?c ?k
      (case a => k_is)
      (case l => k_is)
      (case c => k_is)
      (case k => k_is)
    case dCallsOf =>
      refine' T82.DefAt.of ?a ?l ?c ?k
      (case a => k_is)
      (case l => k_is)
      (case c => k_is)
      (case k => k_is)
    case dBarOf =>
      refine' T82.DefAt.of ?a ?l ?c ?k
      (case a => k_is)
      (case l => k_is)
      (case c => k_is)
      (case k => k_is)
    case dPanelThatKeeps =>
      refine' T82.DefAt.of ?a ?l ?c ?k
      (case a => k_is)
      (case l => k_is)
      (case c => k_is)
      (case k => k_is)
    case dSomePanel =>
      refine' T82.DefAt.of ?a ?l ?c ?k
      (case a => k_is)
      (case l => k_is)
      (case c => k_is)
      (case k => k_is)
    case dContraryOf =>
      refine' T82.DefAt.of ?a ?l ?c ?k
      (case a => k_is)
      (case l => k_is)
      (case c => k_is)
      (case k => k_is)
    case dCheckLine =>
      refine' T82.DefAt.of ?a ?l ?c ?k
      (case a => k_is)
      (case l => k_is)
      (case c => k_is)
      (case k => k_is)
    case dIsImplied =>
      refine' T82.DefAt.of ?a ?l ?c ?k
      (case a => k_is)
      (case l => k_is)
      (case c => k_is)
      (case k => k_is)
    case dFollows =>
      refine' T82.DefAt.of ?a ?l ?c ?k
      (case a => k_is)
      (case l => k_is)
      (case c => k_is)
      (case k => k_is)
    case dIsRound =>
      refine' T82.DefAt.of ?a ?l ?c ?k
      (case a => k_is)
      (case l => k_is)
      (case c => k_is)
      (case k => k_is)
    case dCheckRounds =>
      refine' T82.DefAt.of ?a ?l ?c ?k
      (case a => k_is)
      (case l => k_is)
      (case c => k_is)
      (case k => k_is)
    case dOthersOf =>
      refine' T82.DefAt.of ?a ?l ?c ?k
      (case a => k_is)
      (case l => k_is)
      (case c => k_is)
      (case k => k_is)
    case dRoundsBook =>
      refine' T82.DefAt.of ?a ?l ?c ?k
      (case a => k_is)
      (case l => k_is)
      (case c => k_is)
      (case k => k_is)
    case dBookOfRounds =>
      refine' T82.DefAt.of ?a ?l ?c ?k
      (case a => k_is)
      (case l => k_is)
      (case c => k_is)
      (case k => k_is)
    case dFittingBook =>
      refine' T82.DefAt.of ?a ?l ?c ?k
      (case a => k_is)
      (case l => k_is)
      (case c => k_is)
      (case k => k_is)
    case dWordOf =>
      refine' T82.DefAt.of ?a ?l ?c ?k
      (case a => k_is)
      (case l => k_is)
      (case c => k_is)
      (case k => k_is)
    case dVerdict =>
      refine' T82.DefAt.of ?a ?l ?c ?k
      (case a => k_is)
      (case l => k_is)
      (case c => k_is)
      (case k => k_is)
    case dLawPurse =>
      refine' T82.DefAt.of ?a ?l ?c ?k
      (case a => k_is)
      (case l => k_is)
      (case c => k_is)
      (case k => k_is)
    case dLawMixed =>
      refine' T82.DefAt.of ?a ?l ?c ?k
      (case a => k_is)
      (case l => k_is)
      (case c => k_is)
      (case k => k_is)
    case dLawDraw =>
      refine' T82.DefAt.of ?a ?l ?c ?k
      (case a => k_is)
      (case l => k_is)
      (case c => k_is)
      (case k => k_is)
    case dLawPurses =>
      refine' T82.DefAt.of ?a ?l ?c ?k
      (case a => k_is)
      (case l => k_is)
      (case c => k_is)
      (case k => k_is)
    case dLawShuffled =>
      refine' T82.DefAt.of ?a ?l ?c ?k
      (case a => k_is)
      (case l => k_is)
      (case c => k_is)
      (case k => k_is)
    case dLawWord =>
      refine' T82.DefAt.of ?a ?l ?c ?k
      (case a => k_is)
      (case l => k_is)
      (case c => k_is)
      (case k => k_is)
    case dLawNames =>
      refine' T82.DefAt.of ?a ?l ?c ?k
      (case a => k_is)
      (case l => k_is)
      (case c => k_is)
      (case k => k_is)
    case dLawRowsOf =>
      refine' T82.DefAt.of ?a ?l ?c ?k
      (case a => k_is)
      (case l => k_is)
      (case c => k_is)
      (case k => k_is)
    case dLawCards =>
      refine' T82.DefAt.of ?a ?l ?c ?k
      (case a => k_is)
      (case l => k_is)
      (case c => k_is)
      (case k => k_is)
    case dLawFields =>
      refine' T82.DefAt.of ?a ?l ?c ?k
      (case a => k_is)
      (case l => k_is)
      (case c => k_is)
      (case k => k_is)
    case dLawTaken =>
      refine' T82.DefAt.of ?a ?l ?c ?k
      (case a => k_is)
      (case l => k_is)
      (case c => k_is)
      (case k => k_is)
    case dLawSomeRows =>
      refine' T82.DefAt.of ?a ?l ?c ?k
      (case a => k_is)
      (case l => k_is)
      (case c => k_is)
      (case k => k_is)
    case dLawContrary =>
      refine' T82.DefAt.of ?a ?l ?c ?k
      (case a => k_is)
      (case l => k_is)
      (case c => k_is)
      (case k => k_is)
    case dLawFollows =>
      refine' T82.DefAt.of ?a ?l ?c ?k
      (case a => k_is)
      (case l => k_is)
      (case c => k_is)
      (case k => k_is)
    case dLawAllRows =>
      refine' T82.DefAt.of ?a ?l ?c ?k
      (case a => k_is)
      (case l => k_is)
      (case c => k_is)
      (case k => k_is)
    case dLawAllPanels =>
      refine' T82.DefAt.of ?a ?l ?c ?k
      (case a => k_is)
      (case l => k_is)
      (case c => k_is)
      (case k => k_is)
    case dLawRounds =>
      refine' T82.DefAt.of ?a ?l ?c ?k
      (case a => k_is)
      (case l => k_is)
      (case c => k_is)
      (case k => k_is)
    case dLawRoundLines =>
      refine' T82.DefAt.of ?a ?l ?c ?k
      (case a => k_is)
      (case l => k_is)
      (case c => k_is)
      (case k => k_is)
    case dLawVerdict =>
      refine' T82.DefAt.of ?a ?l ?c ?k
      (case a => k_is)
      (case l => k_is)
      (case c => k_is)
      (case k => k_is)
    case dLawSeen =>
      refine' T82.DefAt.of ?a ?l ?c ?k
      (case a => k_is)
      (case l => k_is)
      (case c => k_is)
      (case k => k_is)
    case dLawGreatSeen =>
      refine' T82.DefAt.of ?a ?l ?c ?k
      (case a => k_is)
      (case l => k_is)
      (case c => k_is)
      (case k => k_is)
    case dLawTold =>
      refine' T82.DefAt.of ?a ?l ?c ?k
      (case a => k_is)
      (case l => k_is)
      (case c => k_is)
      (case k => k_is)
    case dLawByAll =>
      refine' T82.DefAt.of ?a ?l ?c ?k
      (case a => k_is)
      (case l => k_is)
      (case c => k_is)
      (case k => k_is)
    case dLawHiddenRight =>
      refine' T82.DefAt.of ?a ?l ?c ?k
      (case a => k_is)
      (case l => k_is)
      (case c => k_is)
      (case k => k_is)
    case dLaw =>
      refine' T82.DefAt.of ?a ?l ?c ?k
      (case a => k_is)
      (case l => k_is)
      (case c => k_is)
      (case k => k_is)
    (case z_isinstance => k_is)
    (case z_len => k_is)
    (case z_set => k_is)
    (case z_list => k_is)
    (case z_dict => k_is)
    (case z_tuple => k_is)
    (case z_str => k_is)
    (case z_int => k_is)
    (case z_bool => k_is)
    (case z_sorted => k_is)
    (case z_range => k_is)
    (case z_enumerate => k_is)
    (case z_zip => k_is)
    (case z_sum => k_is)
    (case z_max => k_is)
    (case z_min => k_is)
    (case z_repr => k_is)

