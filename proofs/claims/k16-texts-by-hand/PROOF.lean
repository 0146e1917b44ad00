import PyProof.Rows.All
import Wide.All
import OpenK.AllK
import Wide.FinOn
import HandS.ForMost
import HandS.EndBits
import HandS.IsInst
import HandS.Wide
import HandS.Style
import HandS.Deep
import KE.GoesMore
import PySem.Challenge.RW_namesout_k16_texts_by_hand
set_option Elab.async false
set_option linter.all false
set_option maxRecDepth 100000
set_option maxHeartbeats 1000000
namespace Nm
open PySem L2

/-! ### data under a heap -/
mutual
theorem dp_mono {K : PySem.W.Frag} {H H' : Hp} (s : Same H H') : ∀ (d : PyData) (v : V), Dp K H v d → Dp K H' v d
  | .none, _, h => by cases h; exact .non
  | .bool b, _, h => by cases h; exact .bl b
  | .int i, _, h => by cases h; exact .int i
  | .str x, _, h => by cases h; exact .str x
  | .list ds, _, h => by
    cases h with
    | lst hs ha => exact .lst (s.seq hs) (dpa_mono s ds _ ha)
  | .tuple ds, _, h => by
    cases h with
    | tup hs ha =>
      refine .tup ?_ (dpa_mono s ds _ ha)
      rcases hs with (h | ⟨o, h⟩) | h
      · exact .inl (.inl (s _ _ h))
      · exact .inl (.inr ⟨o, s _ _ h⟩)
      · exact .inr h
  | .dict _, _, h => by cases h
theorem dpa_mono {K : PySem.W.Frag} {H H' : Hp} (s : Same H H') : ∀ (ds : List PyData) (vs : List V), DpAll K H vs ds → DpAll K H' vs ds
  | [], _, h => by cases h; exact .nil
  | d :: ds, _, h => by
    cases h with
    | cons h1 h2 => exact .cons (dp_mono s d _ h1) (dpa_mono s ds _ h2)
end
mutual
/-- no list, no dict in it -/
def imm : PyData → Bool
  | .none => true
  | .bool _ => true
  | .int _ => true
  | .str _ => true
  | .list _ => false
  | .tuple ds => imms ds
  | .dict _ => false
def imms : List PyData → Bool
  | [] => true
  | d :: ds => imm d && imms ds
end
/-- the tuples are kept -/
def TSame (H H' : Hp) : Prop := ∀ a xs, Rd H a (.tup xs) → Rd H' a (.tup xs)
mutual
theorem dp_tmono {K : PySem.W.Frag} {H H' : Hp} (s : TSame H H') : ∀ (d : PyData) (v : V), imm d = true → Dp K H v d → Dp K H' v d
  | .none, _, _, h => by cases h; exact .non
  | .bool b, _, _, h => by cases h; exact .bl b
  | .int i, _, _, h => by cases h; exact .int i
  | .str x, _, _, h => by cases h; exact .str x
  | .list ds, _, i, h => by simp [imm] at i
  | .tuple ds, _, i, h => by
    cases h with
    | tup hs ha =>
      refine .tup ?_ (dpa_tmono s ds _ (by simpa [imm] using i) ha)
      rcases hs with h | h
      · exact .inl (s _ _ h)
      · exact .inr h
  | .dict _, _, _, h => by cases h
theorem dpa_tmono {K : PySem.W.Frag} {H H' : Hp} (s : TSame H H') : ∀ (ds : List PyData) (vs : List V), imms ds = true → DpAll K H vs ds → DpAll K H' vs ds
  | [], _, _, h => by cases h; exact .nil
  | d :: ds, _, i, h => by
    have i' : imm d = true ∧ imms ds = true := by simpa [imms] using i
    cases h with
    | cons h1 h2 => exact .cons (dp_tmono s d _ i'.1 h1) (dpa_tmono s ds _ i'.2 h2)
end
theorem dpa_len {K : PySem.W.Frag} {H : Hp} : ∀ (ds : List PyData) (vs : List V), DpAll K H vs ds → vs.length = ds.length
  | [], _, h => by cases h; rfl
  | d :: ds, _, h => by
    cases h with
    | cons h1 h2 => simp [dpa_len ds _ h2]
theorem dpa_get {K : PySem.W.Frag} {H : Hp} : ∀ (ds : List PyData) (vs : List V) (i : Nat) (d : PyData), DpAll K H vs ds → ds[i]? = some d → ∃ v, vs[i]? = some v ∧ Dp K H v d
  | [], _, i, d, h, e => by simp at e
  | x :: ds, _, 0, d, h, e => by
    cases h with
    | cons h1 h2 => simp at e; subst e; exact ⟨_, rfl, h1⟩
  | x :: ds, _, i + 1, d, h, e => by
    cases h with
    | cons h1 h2 =>
      obtain ⟨v, h3, h4⟩ := dpa_get ds _ i d h2 (by simpa using e)
      exact ⟨v, by simpa using h3, h4⟩
theorem dpa_getV {K : PySem.W.Frag} {H : Hp} : ∀ (ds : List PyData) (vs : List V) (i : Nat) (v : V), DpAll K H vs ds → vs[i]? = some v → ∃ d, ds[i]? = some d ∧ Dp K H v d
  | [], _, i, v, h, e => by cases h; simp at e
  | x :: ds, _, 0, v, h, e => by
    cases h with
    | cons h1 h2 => simp at e; subst e; exact ⟨_, rfl, h1⟩
  | x :: ds, _, i + 1, v, h, e => by
    cases h with
    | cons h1 h2 =>
      obtain ⟨d, h3, h4⟩ := dpa_getV ds _ i v h2 (by simpa using e)
      exact ⟨d, by simpa using h3, h4⟩
theorem dpa_app {K : PySem.W.Frag} {H : Hp} : ∀ (ds es : List PyData) (vs ws : List V), DpAll K H vs ds → DpAll K H ws es → DpAll K H (vs ++ ws) (ds ++ es)
  | [], es, _, ws, h, g => by cases h; exact g
  | d :: ds, es, _, ws, h, g => by
    cases h with
    | cons h1 h2 => exact .cons h1 (dpa_app ds es _ ws h2 g)
theorem imms_app (xs ys : List PyData) : imms (xs ++ ys) = (imms xs && imms ys) := by
  induction xs with
  | nil => simp [imms]
  | cons x r ih => simp [imms, ih, Bool.and_assoc]
theorem imms_mem {xs : List PyData} : imms xs = true ↔ ∀ x ∈ xs, imm x = true := by
  induction xs with
  | nil => simp [imms]
  | cons x r ih => simp [imms, ih]

/-! ### what is handed about -/
inductive W where
  | d (x : PyData)
  /-- an instance of class c, its fields' data in the class's order -/
  | o (c : Nat) (fs : List PyData)
def W.im : W → Bool
  | .d x => imm x
  | .o _ fs => imms fs
/-- what a call gives: a value, or a new list -/
inductive Res where
  | w (x : W)
  | fl (xs : List PyData)
def Res.val : Res → W
  | .w x => x
  | .fl xs => .d (.list xs)
abbrev Fs := Nat → List W → Option Res
/-- the static table of a row: defs by number, their parameters; classes by number, their fields; constants of the module; built-in names that are as they were -/
structure Tab where
  fn : Nat → Str
  ps : Nat → List Str
  cn : Nat → Str
  cf : Nat → List Str
  gl : Str → Option V
  bl : List Str
  /-- a def that is a method: its class, its name there -/
  mo : Nat → Option (Nat × Str) := fun _ => none
  /-- how many classes -/
  nc : Nat := 0
  /-- is an instance of the one an instance of the other, too -/
  sub : Nat → Nat → Bool := fun _ _ => false
def Rw (T : Tab) (K : PySem.W.Frag) (mg : Str → Option Value) (H : Hp) (v : V) : W → Prop
  | .d x => Dp K H v x
  | .o c fs => ∃ a C dx vs, v = .ref a ∧ mg (T.cn c) = some (.ref C) ∧ H a = some (.ins C dx ((T.cf c).zip vs)) ∧ vs.length = (T.cf c).length ∧ DpAll K H vs fs
inductive RwAll (T : Tab) (K : PySem.W.Frag) (mg : Str → Option Value) (H : Hp) : List V → List W → Prop
  | nil : RwAll T K mg H [] []
  | cons {v : V} {vs : List V} {w : W} {ws : List W} : Rw T K mg H v w → RwAll T K mg H vs ws → RwAll T K mg H (v :: vs) (w :: ws)
section
variable {T : Tab} {K : PySem.W.Frag} {mg : Str → Option Value} {H H' : Hp}
theorem rw_mono (s : Same H H') {v : V} : ∀ {w : W}, Rw T K mg H v w → Rw T K mg H' v w
  | .d x, h => dp_mono s x v h
  | .o c fs, ⟨a, C, dx, vs, e1, e2, e3, e4, e5⟩ => ⟨a, C, dx, vs, e1, e2, s _ _ e3, e4, dpa_mono s fs vs e5⟩
theorem rwa_mono (s : Same H H') : ∀ {vs : List V} {ws : List W}, RwAll T K mg H vs ws → RwAll T K mg H' vs ws
  | _, _, .nil => .nil
  | _, _, .cons h t => .cons (rw_mono s h) (rwa_mono s t)
theorem rwa_len : ∀ {vs : List V} {ws : List W}, RwAll T K mg H vs ws → vs.length = ws.length
  | _, _, .nil => rfl
  | _, _, .cons h t => by simp [rwa_len t]
end

/-! ### the environment of data -/
inductive Sl where
  | w (x : W)
  | own (xs : List PyData)
abbrev Rho := List (Option Sl)
def rd (r : Rho) (i : Nat) : Option W := match r[i]? with
  | some (some (.w x)) => some x
  | some (some (.own xs)) => some (.d (.list xs))
  | _ => none
def RV (T : Tab) (K : PySem.W.Frag) (mg : Str → Option Value) (H : Hp) (s : L2.St) (r : Rho) : Prop := ∀ i x, rd r i = some x → ∃ v, s[i]? = some (some v) ∧ Rw T K mg H v x
theorem rv_mono {T : Tab} {K : PySem.W.Frag} {mg : Str → Option Value} {H H' : Hp} {s : L2.St} {r : Rho} (e : Same H H') (h : RV T K mg H s r) : RV T K mg H' s r := fun i x q => by
  obtain ⟨v, h1, h2⟩ := h i x q
  exact ⟨v, h1, rw_mono e h2⟩

/-! ### readings -/
def tD (T : Tab) (X : Cx) (r : Rho) (w : W) : TE := fun s H Q => RV T X.K X.mg H s r ∧ ∀ v H', Same H H' → Rw T X.K X.mg H' v w → Q v H'
def tL (T : Tab) (X : Cx) (r : Rho) (xs : List PyData) : TE := fun s H Q => RV T X.K X.mg H s r ∧ ∀ p vs H', H p = none → Same H H' → H' p = some (.lst vs) → DpAll X.K H' vs xs → Q (.ref p) H'
def tQ (T : Tab) (X : Cx) (r : Rho) (b : Bool) : TT := fun s H Q => RV T X.K X.mg H s r ∧ ∀ H', Same H H' → Q b H'
def tAs (T : Tab) (X : Cx) (r : Rho) (ws : List W) : TA := fun s H Q => RV T X.K X.mg H s r ∧ ∀ vs H', Same H H' → RwAll T X.K X.mg H' vs ws → Q vs H'

section
variable {X : Cx} {e : Expr} {es : List Expr} {st : Stmt} {sts : List Stmt}
theorem pe_imp {t t' : TE} (h : PE X e t) (i : ∀ s H Q, t' s H Q → t s H Q) : PE X e t' := ⟨fun pins s z H Q I q => h.run pins s z H Q I (i z H Q q)⟩
theorem pt_imp {t t' : TT} (h : PT X e t) (i : ∀ s H Q, t' s H Q → t s H Q) : PT X e t' := ⟨fun pins s z H Q I q => h.run pins s z H Q I (i z H Q q)⟩
theorem pw_imp {t t' : TT} (h : PW X e t) (i : ∀ s H Q, t' s H Q → t s H Q) : PW X e t' := ⟨fun wh pins s z H Q I q => h.run wh pins s z H Q I (i z H Q q)⟩
theorem pa_imp {t t' : TA} (h : PA X es t) (i : ∀ s H Q, t' s H Q → t s H Q) : PA X es t' := ⟨fun pos pins s z H Q I q => h.run pos pins s z H Q I (i z H Q q)⟩
theorem ps_imp {t t' : TS} (h : PS X st t) (i : ∀ D s H, t' D s H → t D s H) : PS X st t' := ⟨fun pins s z H D I q => h.run pins s z H D I (i D z H q)⟩
theorem pss_imp {t t' : TS} (h : PSs X sts t) (i : ∀ D s H, t' D s H → t D s H) : PSs X sts t' := ⟨fun pins s z H D I q => h.run pins s z H D I (i D z H q)⟩
theorem pe_never : PE X e (fun _ _ _ => False) := ⟨fun _ _ _ _ _ _ h => h.elim⟩
theorem pt_never : PT X e (fun _ _ _ => False) := ⟨fun _ _ _ _ _ _ h => h.elim⟩
end

/-! ### what is known around -/
def spR (T : Tab) (K : PySem.W.Frag) (mg : Str → Option Value) (args : List W) (r : Res) : Sp := fun vs H Q _ => RwAll T K mg H vs args ∧ match r with
  | .w x => ∀ v H', Same H H' → Rw T K mg H' v x → Q v H'
  | .fl xs => ∀ p vs' H', H p = none → Same H H' → H' p = some (.lst vs') → DpAll K H' vs' xs → Q (.ref p) H'
/-- the def number i keeps what F says, by k levels -/
structure Calb (T : Tab) (P : Program) (w : World) (K : PySem.W.Frag) (mg : Str → Option Value) (base : Heap) (k : Nat) (i : Nat) (args : List W) (r : Res) : Prop where
  ex : ∃ f fd, Binds K fd (T.ps i) [] ∧ FnOk P w K mg base CX0 k f fd (T.ps i) (spR T K mg args r) ∧
    (T.mo i = none → mg (T.fn i) = some (.ref f) ∧ PySem.W.keepIn K (.ref f) = true) ∧
    ∀ cid m, T.mo i = some (cid, m) → ∃ C, mg (T.cn cid) = some (.ref C) ∧ Meth K C m f
/-- what __init__ does: the fields, in order -/
def spInit (C : Addr) (fs : List Str) : Sp := fun vs H Q _ => ∃ x dx ws, vs = .ref x :: ws ∧ ws.length = fs.length ∧ H x = some (.ins C dx []) ∧ Q .non (upd H x (.ins C dx (fs.zip ws)))
/-- what is asked of an instance's type -/
structure InsTy (K : PySem.W.Frag) (C : Addr) : Prop where
  ha : PySem.W.findIn K (.ref C) "__class__" = some (some (.builtin "object.__class__"))
  hn : PySem.W.specialIn K (.builtin "object.__class__") "__get__" = some (some (.builtin "getset_descriptor.__get__"))
  ht : PySem.W.takesIn K (.builtin "object.__class__") = some true
  hm : PySem.W.mroIn K C (.type "object") = some true
structure ClOk (T : Tab) (P : Program) (w : World) (K : PySem.W.Frag) (mg : Str → Option Value) (base : Heap) (c : Nat) : Prop where
  ex : ∃ C, mg (T.cn c) = some (.ref C) ∧ Cls K C ∧ (∀ f ∈ T.cf c, NoAttr K C f) ∧ InsTy K C ∧
    (T.cf c ≠ [] → ∃ f fd ps, Mk K C f ∧ Binds K fd ps [] ∧ ps.length = (T.cf c).length + 1 ∧ FnOk P w K mg base CX0 1 f fd ps (spInit C (T.cf c)))
structure TabOk (T : Tab) (mg : Str → Option Value) : Prop where
  gl : ∀ x v, T.gl x = some v → ∃ u, mg x = some u ∧ RelV v u
  bl : ∀ x ∈ T.bl, mg x = none
structure C0 where
  T : Tab
  N : List Str
  F : Fs
  k : Nat
  sc : Scope
structure Gd (c : C0) (X : Cx) : Prop where
  hN : X.N = c.N
  hsc : X.env.scope = c.sc
  calm : X.calm = true
  room : Room c.k X.A
  nd : c.N.Nodup
  tab : TabOk c.T X.mg
  cal : ∀ i args r, c.F i args = some r → Calb c.T X.prog X.w X.K X.mg X.base c.k i args r
  clo : ∀ i, i < c.T.nc → ClOk c.T X.prog X.w X.K X.mg X.base i
theorem Gd.kind {c : C0} {X : Cx} (g : Gd c X) (x : Str) : X.env.kindOf x = c.sc.names.lookup x := by
  show X.env.scope.names.lookup x = _
  rw [g.hsc]
def OkE (c : C0) (e : Expr) (f : Rho → Option W) : Prop := ∀ X, Gd c X → ∀ r w, f r = some w → PE X e (tD c.T X r w)
def OkL (c : C0) (e : Expr) (f : Rho → Option (List PyData)) : Prop := ∀ X, Gd c X → ∀ r xs, f r = some xs → PE X e (tL c.T X r xs)
def OkT (c : C0) (e : Expr) (f : Rho → Option Bool) : Prop := ∀ X, Gd c X → ∀ r b, f r = some b → PT X e (tQ c.T X r b)
def OkW (c : C0) (e : Expr) (f : Rho → Option Bool) : Prop := ∀ X, Gd c X → ∀ r b, f r = some b → PW X e (tQ c.T X r b)
def OkA (c : C0) (es : List Expr) (f : Rho → Option (List W)) : Prop := ∀ X, Gd c X → ∀ r ws, f r = some ws → PA X es (tAs c.T X r ws)

/-! ### names and constants -/
def cVar (i : Nat) : Rho → Option W := fun r => rd r i
def cD (d : PyData) : Rho → Option W := fun _ => some (.d d)
abbrev cI (i : Int) : Rho → Option W := cD (.int i)
abbrev cS (x : Str) : Rho → Option W := cD (.str x)
abbrev cB (b : Bool) : Rho → Option W := cD (.bool b)
abbrev cN : Rho → Option W := cD .none
section
variable {c : C0} {pos : Pos}
theorem ok_var {i : Nat} {x : Str} (hN : c.N[i]? = some x) (hv : Vis c.sc x) (hd : (x == ("__debug__" : Str)) = false := by decide) (hcd : (x == ("__classdict__" : Str)) = false := by decide) : OkE c (.Name x pos) (cVar i) := fun X g r w h =>
  pe_imp (pe_var (i := i) (by rw [g.hN]; exact hN) (by rw [g.hsc]; exact hv) hd hcd) fun s H Q q => by
    obtain ⟨v, h1, h2⟩ := q.1 i w h
    exact ⟨v, h1, q.2 v H (Same.refl H) h2⟩
theorem ok_int {i j} : OkE c (.Constant (.int i) j pos) (cI i) := fun X g r w h => by
  cases h
  exact pe_imp pe_int fun s H Q q => q.2 _ H (Same.refl H) (Dp.int i)
theorem ok_str {x j} : OkE c (.Constant (.str x) j pos) (cS x) := fun X g r w h => by
  cases h
  exact pe_imp pe_str fun s H Q q => q.2 _ H (Same.refl H) (Dp.str x)
theorem ok_bl {b j} : OkE c (.Constant (.bool b) j pos) (cB b) := fun X g r w h => by
  cases h
  exact pe_imp pe_bl fun s H Q q => q.2 _ H (Same.refl H) (Dp.bl b)
theorem ok_non {j} : OkE c (.Constant .none j pos) cN := fun X g r w h => by
  cases h
  exact pe_imp pe_non fun s H Q q => q.2 _ H (Same.refl H) Dp.non
/-- a constant of the module: an int or a text -/
theorem ok_gI {x : Str} {i : Int} (hk : c.sc.names.lookup x = some .globalImplicit) (hg : c.T.gl x = some (.int i)) (hd : (x == ("__debug__" : Str)) = false := by decide) : OkE c (.Name x pos) (cI i) := fun X g r w h => by
  cases h
  obtain ⟨u, h1, h2⟩ := g.tab.gl x _ hg
  exact pe_imp (pe_glob (v := .int i) ((g.kind x).trans hk) h1 h2 hd) fun s H Q q => q.2 _ H (Same.refl H) (Dp.int i)
theorem ok_gS {x : Str} {i : Str} (hk : c.sc.names.lookup x = some .globalImplicit) (hg : c.T.gl x = some (.str i)) (hd : (x == ("__debug__" : Str)) = false := by decide) : OkE c (.Name x pos) (cS i) := fun X g r w h => by
  cases h
  obtain ⟨u, h1, h2⟩ := g.tab.gl x _ hg
  exact pe_imp (pe_glob (v := .str i) ((g.kind x).trans hk) h1 h2 hd) fun s H Q q => q.2 _ H (Same.refl H) (Dp.str i)

/-! ### operators -/
def cOp2 (g : W → W → Option W) (fa fb : Rho → Option W) : Rho → Option W := fun r => match fa r with
  | some x => match fb r with
    | some y => g x y
    | none => none
  | none => none
variable {a b : Expr} {fa fb : Rho → Option W}
theorem cOp2_some {g : W → W → Option W} {r : Rho} {w : W} (h : cOp2 g fa fb r = some w) : ∃ x y, fa r = some x ∧ fb r = some y ∧ g x y = some w := by
  unfold cOp2 at h
  split at h
  · rename_i x e1
    split at h
    · rename_i y e2
      exact ⟨x, y, e1, e2, h⟩
    · cases h
  · cases h
/-- what an operation on values does, as told by g on data -/
def OpOk (c : C0) (g : W → W → Option W) (rr : Cx → R2) : Prop := ∀ X, Gd c X → ∀ H x y v u w (Q : VK), g v u = some w → Rw c.T X.K X.mg H x v → Rw c.T X.K X.mg H y u → (∀ z H', Same H H' → Rw c.T X.K X.mg H' z w → Q z H') → rr X x y H Q
theorem tOp_of {g : W → W → Option W} {rr : Cx → R2} (ho : OpOk c g rr) {X : Cx} (gd : Gd c X) {r : Rho} {x y w : W} (hg : g x y = some w) : ∀ s H Q, tD c.T X r w s H Q → tOp (rr X) (tD c.T X r x) (tD c.T X r y) s H Q := fun s H Q q =>
  ⟨q.1, fun v H1 e1 h1 => ⟨rv_mono e1 q.1, fun u H2 e2 h2 => ho X gd H2 v u x y w Q hg (rw_mono e2 h1) h2 fun z H' e' hz => q.2 z H' (e1.trans (e2.trans e')) hz⟩⟩
theorem ok_op {op : Operator} {g : W → W → Option W} {rr : Cx → R2} (hr : ∀ X, Gd c X → OpR X (binaryOp op) (rr X)) (ho : OpOk c g rr) (ha : OkE c a fa) (hb : OkE c b fb) : OkE c (.BinOp a op b pos) (cOp2 g fa fb) := fun X gd r w h => by
  obtain ⟨x, y, e1, e2, e3⟩ := cOp2_some h
  exact pe_imp (pe_op (hr X gd) (ha X gd r x e1) (hb X gd r y e2)) (tOp_of ho gd e3)
theorem ok_cmp {op : CmpOp} {g : W → W → Option W} {rr : Cx → R2} (hr : ∀ X, Gd c X → OpR X (compareOp op) (rr X)) (ho : OpOk c g rr) (ha : OkE c a fa) (hb : OkE c b fb) (hm : behindInMarks op b = false) : OkE c (.Compare a [op] [b] pos) (cOp2 g fa fb) := fun X gd r w h => by
  obtain ⟨x, y, e1, e2, e3⟩ := cOp2_some h
  exact pe_imp (pe_cmpR (hr X gd) (ha X gd r x e1) (hb X gd r y e2) hm) (tOp_of ho gd e3)
/-- a value that is a bool -/
def wB : Option W → Option Bool
  | some (.d (.bool b)) => some b
  | _ => none
def cT (f : Rho → Option W) : Rho → Option Bool := fun r => wB (f r)
theorem cT_some {f : Rho → Option W} {r : Rho} {b : Bool} (h : cT f r = some b) : f r = some (.d (.bool b)) := by
  unfold cT at h
  generalize f r = z at h ⊢
  unfold wB at h
  split at h
  · injection h with h; subst h; rfl
  · cases h
theorem okT_cmp {op : CmpOp} {g : W → W → Option W} {rr : Cx → R2} (hr : ∀ X, Gd c X → OpR X (compareOp op) (rr X)) (ho : OpOk c g rr) (ha : OkE c a fa) (hb : OkE c b fb) (hm : behindInMarks op b = false) : OkT c (.Compare a [op] [b] pos) (cT (cOp2 g fa fb)) := fun X gd r k h => by
  obtain ⟨x, y, e1, e2, e3⟩ := cOp2_some (cT_some h)
  refine pt_imp (pt_cmpR (hr X gd) (ha X gd r x e1) (hb X gd r y e2) hm) fun s H Q q => ?_
  refine tOp_of ho gd e3 s H _ ⟨q.1, fun v H' e hv => ?_⟩
  have hv : Dp X.K H' v (.bool k) := hv
  cases hv
  exact ⟨k, rfl, q.2 H' e⟩
theorem okT_val {e : Expr} {f : Rho → Option W} (h : OkE c e f) (he : ∀ (env : Env) (whole : Sem Value), isTrue e env whole = (do let v ← whole; standAt e.pos; holding [v] (truthy v)) := by intro _ _; rfl) : OkT c e (cT f) := fun X gd r k q => by
  refine pt_imp (pt_val (h X gd r _ (cT_some q)) (he X.env)) fun s H Q q => ⟨q.1, fun v H' e hv => ?_⟩
  have hv : Dp X.K H' v (.bool k) := hv
  cases hv
  exact ⟨k, rfl, q.2 H' e⟩
/-! ### and, or, not as tests -/
def qAnd (f g : Rho → Option Bool) : Rho → Option Bool := fun r => match f r with
  | some true => g r
  | some false => some false
  | none => none
def qOr (f g : Rho → Option Bool) : Rho → Option Bool := fun r => match f r with
  | some true => some true
  | some false => g r
  | none => none
def qNot (f : Rho → Option Bool) : Rho → Option Bool := fun r => match f r with
  | some b => some (!b)
  | none => none
variable {f g : Rho → Option Bool} {rest : List Expr}
theorem okW_one_and (ha : OkT c a f) : OkW c (.BoolOp .And [a] pos) f := fun X gd r k q => pw_and1 (ha X gd r k q)
theorem okW_one_or (ha : OkT c a f) : OkW c (.BoolOp .Or [a] pos) f := fun X gd r k q => pw_or1 (ha X gd r k q)
theorem pw_never {X : Cx} {e : Expr} : PW X e (fun _ _ _ => False) := ⟨fun _ _ _ _ _ _ _ h => h.elim⟩
theorem okW_and (ha : OkT c a f) (hb : OkW c (.BoolOp .And (b :: rest) pos) g) : OkW c (.BoolOp .And (a :: b :: rest) pos) (qAnd f g) := fun X gd r k q => by
  unfold qAnd at q
  split at q
  · rename_i e
    refine pw_imp (pw_and (ha X gd r true e) (hb X gd r k q)) fun s H Q h => ⟨h.1, fun H1 e1 => iteT ⟨rv_mono e1 h.1, fun H2 e2 => h.2 H2 (e1.trans e2)⟩⟩
  · rename_i e
    cases q
    exact pw_imp (pw_and (ha X gd r false e) pw_never) fun s H Q h => ⟨h.1, fun H1 e1 => iteF (h.2 H1 e1)⟩
  · cases q
theorem okW_or (ha : OkT c a f) (hb : OkW c (.BoolOp .Or (b :: rest) pos) g) : OkW c (.BoolOp .Or (a :: b :: rest) pos) (qOr f g) := fun X gd r k q => by
  unfold qOr at q
  split at q
  · rename_i e
    cases q
    exact pw_imp (pw_or (ha X gd r true e) pw_never) fun s H Q h => ⟨h.1, fun H1 e1 => iteT (h.2 H1 e1)⟩
  · rename_i e
    refine pw_imp (pw_or (ha X gd r false e) (hb X gd r k q)) fun s H Q h => ⟨h.1, fun H1 e1 => iteF ⟨rv_mono e1 h.1, fun H2 e2 => h.2 H2 (e1.trans e2)⟩⟩
  · cases q
theorem okT_W {e : Expr} (h : OkW c e f) : OkT c e f := fun X gd r k q => (h X gd r k q).pt
theorem okT_not (ha : OkT c a f) : OkT c (.UnaryOp .Not a pos) (qNot f) := fun X gd r k q => by
  unfold qNot at q
  split at q
  · rename_i b e
    cases q
    exact pt_imp (pt_not (ha X gd r b e)) fun s H Q h => ⟨h.1, fun H1 e1 => h.2 H1 e1⟩
  · cases q
/-! ### and, or, not as values -/
def cAnd (f g : Rho → Option W) : Rho → Option W := fun r => match wB (f r) with
  | some true => g r
  | some false => some (.d (.bool false))
  | none => none
def cOr (f g : Rho → Option W) : Rho → Option W := fun r => match wB (f r) with
  | some true => some (.d (.bool true))
  | some false => g r
  | none => none
def cNot (f : Rho → Option W) : Rho → Option W := fun r => match wB (f r) with
  | some b => some (.d (.bool (!b)))
  | none => none
theorem ok_one {op} (ha : OkE c a fa) : OkE c (.BoolOp op [a] pos) fa := fun X gd r k q => pe_one (ha X gd r k q)
theorem bl_of {K : PySem.W.Frag} {H : Hp} {v : V} {b : Bool} (h : Dp K H v (.bool b)) : v = .bl b := by cases h; rfl
theorem ok_and (ha : OkE c a fa) (hb : OkE c (.BoolOp .And (b :: rest) pos) fb) : OkE c (.BoolOp .And (a :: b :: rest) pos) (cAnd fa fb) := fun X gd r k q => by
  unfold cAnd at q
  split at q
  · rename_i e
    refine pe_imp (pe_and (ha X gd r _ (cT_some e)) (hb X gd r k q)) fun s H Q h => ⟨h.1, fun v H1 e1 hv => ⟨true, bl_of hv, iteT ⟨rv_mono e1 h.1, fun u H2 e2 hu => h.2 u H2 (e1.trans e2) hu⟩⟩⟩
  · rename_i e
    cases q
    exact pe_imp (pe_and (ha X gd r _ (cT_some e)) pe_never) fun s H Q h => ⟨h.1, fun v H1 e1 hv => ⟨false, bl_of hv, iteF (h.2 _ H1 e1 (Dp.bl false))⟩⟩
  · cases q
theorem ok_or (ha : OkE c a fa) (hb : OkE c (.BoolOp .Or (b :: rest) pos) fb) : OkE c (.BoolOp .Or (a :: b :: rest) pos) (cOr fa fb) := fun X gd r k q => by
  unfold cOr at q
  split at q
  · rename_i e
    cases q
    exact pe_imp (pe_or (ha X gd r _ (cT_some e)) pe_never) fun s H Q h => ⟨h.1, fun v H1 e1 hv => ⟨true, bl_of hv, iteT (h.2 _ H1 e1 (Dp.bl true))⟩⟩
  · rename_i e
    refine pe_imp (pe_or (ha X gd r _ (cT_some e)) (hb X gd r k q)) fun s H Q h => ⟨h.1, fun v H1 e1 hv => ⟨false, bl_of hv, iteF ⟨rv_mono e1 h.1, fun u H2 e2 hu => h.2 u H2 (e1.trans e2) hu⟩⟩⟩
  · cases q
theorem ok_not (ha : OkE c a fa) : OkE c (.UnaryOp .Not a pos) (cNot fa) := fun X gd r k q => by
  unfold cNot at q
  split at q
  · rename_i b e
    cases q
    exact pe_imp (pe_not (ha X gd r _ (cT_some e))) fun s H Q h => ⟨h.1, fun v H1 e1 hv => ⟨b, bl_of hv, h.2 _ H1 e1 (Dp.bl _)⟩⟩
  · cases q
def cIf (q : Rho → Option Bool) (f g : Rho → Option W) : Rho → Option W := fun r => match q r with
  | some true => f r
  | some false => g r
  | none => none
theorem ok_if {t : Expr} {q : Rho → Option Bool} (ht : OkT c t q) (ha : OkE c a fa) (hb : OkE c b fb) : OkE c (.IfExp t a b pos) (cIf q fa fb) := fun X gd r k h => by
  unfold cIf at h
  split at h
  · rename_i e
    exact pe_imp (pe_ifExp (ht X gd r true e) (ha X gd r k h) pe_never) fun s H Q h => ⟨h.1, fun H1 e1 => iteT ⟨rv_mono e1 h.1, fun u H2 e2 hu => h.2 u H2 (e1.trans e2) hu⟩⟩
  · rename_i e
    exact pe_imp (pe_ifExp (ht X gd r false e) pe_never (hb X gd r k h)) fun s H Q h => ⟨h.1, fun H1 e1 => iteF ⟨rv_mono e1 h.1, fun u H2 e2 hu => h.2 u H2 (e1.trans e2) hu⟩⟩
  · cases h
/-! ### argument lists, tuples, lists -/
def aNil : Rho → Option (List W) := fun _ => some []
def aCons (f : Rho → Option W) (g : Rho → Option (List W)) : Rho → Option (List W) := fun r => match f r with
  | some x => match g r with
    | some xs => some (x :: xs)
    | none => none
  | none => none
theorem okA_nil : OkA c [] aNil := fun X gd r ws h => by
  cases h
  exact pa_imp pa_nil fun s H Q q => q.2 _ H (Same.refl H) .nil
theorem okA_cons {e : Expr} {es : List Expr} {g : Rho → Option (List W)} (ha : OkE c e fa) (hr : OkA c es g) (hs : ∀ env, starEach (e :: es) env = (false, eval e env) :: starEach es env := by intro _; rfl) : OkA c (e :: es) (aCons fa g) := fun X gd r ws h => by
  unfold aCons at h
  split at h
  · rename_i x e1
    split at h
    · rename_i xs e2
      cases h
      exact pa_imp (pa_cons (ha X gd r x e1) (hr X gd r xs e2) (hs X.env)) fun s H Q q => ⟨q.1, fun v H1 e1 hv => ⟨rv_mono e1 q.1, fun vs H2 e2 hvs => q.2 _ H2 (e1.trans e2) (.cons (rw_mono e2 hv) hvs)⟩⟩
    · cases h
  · cases h
/-- data alone -/
def wDs : List W → Option (List PyData)
  | [] => some []
  | .d x :: r => match wDs r with
    | some xs => some (x :: xs)
    | none => none
  | .o _ _ :: _ => none
theorem wDs_all {T : Tab} {K : PySem.W.Frag} {mg : Str → Option Value} {H : Hp} : ∀ {ws : List W} {xs : List PyData} {vs : List V}, wDs ws = some xs → RwAll T K mg H vs ws → DpAll K H vs xs
  | [], xs, _, h, .nil => by cases h; exact .nil
  | .d x :: r, xs, _, h, .cons h1 h2 => by
    unfold wDs at h
    split at h
    · rename_i ys e
      cases h
      exact .cons h1 (wDs_all e h2)
    · cases h
  | .o _ _ :: r, xs, _, h, _ => by cases h
def cTup (f : Rho → Option (List W)) : Rho → Option W := fun r => match f r with
  | some ws => match wDs ws with
    | some xs => if xs.length ≤ 100000 then some (.d (.tuple xs)) else none
    | none => none
  | none => none
theorem same_new {H : Hp} {p : Addr} (h : H p = none) (o : HO) : Same H (upd H p o) := fun b u q => by rw [upd_ne (ne_of_none q h)]; exact q
theorem sz {n : Nat} (h : n ≤ 100000) : n ≤ sizeLine := Nat.le_trans h (by decide)
theorem ok_tup {es : List Expr} {k} {h : Rho → Option (List W)} (he : OkA c es h) : OkE c (.Tuple es k pos) (cTup h) := fun X gd r w q => by
  unfold cTup at q
  split at q
  · rename_i ws e1
    split at q
    · rename_i xs e2
      split at q
      · rename_i hz
        cases q
        refine pe_imp (pe_tup (he X gd r ws e1)) fun s H Q q => ⟨q.1, fun vs H1 s1 hv => ?_⟩
        have hd := wDs_all e2 hv
        refine ⟨by rw [dpa_len _ _ hd]; exact sz hz, fun p hp => q.2 _ _ (s1.trans (same_new hp _)) (Dp.tup (SqT.of upd_same) (dpa_mono (same_new hp _) _ _ hd))⟩
      · cases q
    · cases q
  · cases q
def lLst (f : Rho → Option (List W)) : Rho → Option (List PyData) := fun r => match f r with
  | some ws => match wDs ws with
    | some xs => if xs.length ≤ 100000 then some xs else none
    | none => none
  | none => none
theorem ok_lst {es : List Expr} {h : Rho → Option (List W)} (he : OkA c es h) : OkL c (.List es pos) (lLst h) := fun X gd r w q => by
  unfold lLst at q
  split at q
  · rename_i ws e1
    split at q
    · rename_i xs e2
      split at q
      · rename_i hz
        cases q
        refine pe_imp (pe_lst (he X gd r ws e1)) fun s H Q q => ⟨q.1, fun vs H1 s1 hv => ?_⟩
        have hd := wDs_all e2 hv
        refine ⟨by rw [dpa_len _ _ hd]; exact sz hz, fun p hp => q.2 p vs _ (s1.free hp) (s1.trans (same_new hp _)) upd_same (dpa_mono (same_new hp _) _ _ hd)⟩
      · cases q
    · cases q
  · cases q
/-- a new list as a value -/
def cL (f : Rho → Option (List PyData)) : Rho → Option W := fun r => match f r with
  | some xs => some (.d (.list xs))
  | none => none
theorem ok_L {e : Expr} {h : Rho → Option (List PyData)} (he : OkL c e h) : OkE c e (cL h) := fun X gd r w q => by
  unfold cL at q
  split at q
  · rename_i xs e1
    cases q
    exact pe_imp (he X gd r xs e1) fun s H Q q => ⟨q.1, fun p vs H1 hp s1 h1 hd => q.2 _ H1 s1 (Dp.lst (SqL.of h1) hd)⟩
  · cases q
end
end Nm
namespace Nm
open PySem L2

/-! ### == and != of data -/
def eqOk (k : Nat) : PyData → PyData → Bool
  | .tuple xs, .tuple ys => PyData.canLayAll0 xs && PyData.canLayAll0 ys && decide (min (PyData.depth (.tuple xs)) (PyData.depth (.tuple ys)) ≤ 199 + 16 * k)
  | .list xs, .list ys => PyData.canLayAll0 xs && PyData.canLayAll0 ys && decide (min (PyData.depth (.list xs)) (PyData.depth (.list ys)) ≤ 199 + 16 * k)
  | _, _ => true
/-- ==, by the forms of the two -/
def eqD : PyData → PyData → Bool
  | .none, .none => true
  | .bool a, .bool b => a == b
  | .bool a, .int j => (if a then 1 else 0) == j
  | .int i, .bool b => i == (if b then 1 else 0)
  | .int i, .int j => i == j
  | .str x, .str y => x == y
  | .list xs, .list ys => PyData.eqvAll xs ys
  | .tuple xs, .tuple ys => PyData.eqvAll xs ys
  | _, _ => false
theorem eqD_eqv (d e : PyData) : PyData.eqv d e = eqD d e := by
  cases d <;> cases e <;> simp only [PyData.eqv, eqD]
section
variable {A : Around} {s : Shared} {a b : Value} {as bs : List Addr}
theorem rc_any {k : Nat} {da db : PyData} (ra : Reads s.heap a da as) (rb : Reads s.heap b db bs) (na : ∀ z, da ≠ .dict z) (nb : ∀ z, db ≠ .dict z) (ok : eqOk k da db = true) (hu : A.units + 200 + 16 * k < cLine) :
    SeqAt.RcAt A s a b (PyData.eqv da db) ∧ SeqAt.RcNeAt A s a b (!PyData.eqv da db) := by
  have h0 : A.units < cLine := by omega
  cases ra with
  | none =>
    cases rb with
    | none => exact ⟨SeqAt.RcAt.none_none, SeqAt.RcNeAt.none_none⟩
    | bool y => exact ⟨SeqAt.RcAt.none_bool y, SeqAt.RcNeAt.none_bool y⟩
    | int y u => exact ⟨SeqAt.RcAt.none_int y u, SeqAt.RcNeAt.none_int y u⟩
    | str y u => exact ⟨SeqAt.RcAt.none_str y u, SeqAt.RcNeAt.none_str y u⟩
    | list k1 k2 k3 k4 => exact ⟨SeqAt.RcAt.none_list ⟨_, k1, k2, _, k3⟩ h0, SeqAt.RcNeAt.none_list ⟨_, k1, k2, _, k3⟩ h0⟩
    | tuple k1 k2 k3 k4 => exact ⟨SeqAt.RcAt.none_tuple ⟨_, k1, k2, _, k3⟩ h0, SeqAt.RcNeAt.none_tuple ⟨_, k1, k2, _, k3⟩ h0⟩
    | dict => exact absurd rfl (nb _)
  | bool x =>
    cases rb with
    | none => exact ⟨SeqAt.RcAt.bool_none x, SeqAt.RcNeAt.bool_none x⟩
    | bool y => exact ⟨SeqAt.RcAt.bool_bool x y, SeqAt.RcNeAt.bool_bool x y⟩
    | int y u => exact ⟨SeqAt.RcAt.bool_int x y u, SeqAt.RcNeAt.bool_int x y u⟩
    | str y u => exact ⟨SeqAt.RcAt.bool_str x y u, SeqAt.RcNeAt.bool_str x y u⟩
    | list k1 k2 k3 k4 => exact ⟨SeqAt.RcAt.bool_list x ⟨_, k1, k2, _, k3⟩ h0, SeqAt.RcNeAt.bool_list x ⟨_, k1, k2, _, k3⟩ h0⟩
    | tuple k1 k2 k3 k4 => exact ⟨SeqAt.RcAt.bool_tuple x ⟨_, k1, k2, _, k3⟩ h0, SeqAt.RcNeAt.bool_tuple x ⟨_, k1, k2, _, k3⟩ h0⟩
    | dict => exact absurd rfl (nb _)
  | int x t =>
    cases rb with
    | none => exact ⟨SeqAt.RcAt.int_none x t, SeqAt.RcNeAt.int_none x t⟩
    | bool y => exact ⟨SeqAt.RcAt.int_bool x t y, SeqAt.RcNeAt.int_bool x t y⟩
    | int y u => exact ⟨SeqAt.RcAt.int_int x t y u, SeqAt.RcNeAt.int_int x t y u⟩
    | str y u => exact ⟨SeqAt.RcAt.int_str x t y u, SeqAt.RcNeAt.int_str x t y u⟩
    | list k1 k2 k3 k4 => exact ⟨SeqAt.RcAt.int_list x t ⟨_, k1, k2, _, k3⟩ h0, SeqAt.RcNeAt.int_list x t ⟨_, k1, k2, _, k3⟩ h0⟩
    | tuple k1 k2 k3 k4 => exact ⟨SeqAt.RcAt.int_tuple x t ⟨_, k1, k2, _, k3⟩ h0, SeqAt.RcNeAt.int_tuple x t ⟨_, k1, k2, _, k3⟩ h0⟩
    | dict => exact absurd rfl (nb _)
  | str x t =>
    cases rb with
    | none => exact ⟨SeqAt.RcAt.str_none x t, SeqAt.RcNeAt.str_none x t⟩
    | bool y => exact ⟨SeqAt.RcAt.str_bool x t y, SeqAt.RcNeAt.str_bool x t y⟩
    | int y u => exact ⟨SeqAt.RcAt.str_int x t y u, SeqAt.RcNeAt.str_int x t y u⟩
    | str y u => exact ⟨SeqAt.RcAt.str_str x t y u, SeqAt.RcNeAt.str_str x t y u⟩
    | list k1 k2 k3 k4 => exact ⟨SeqAt.RcAt.str_list x t ⟨_, k1, k2, _, k3⟩ h0, SeqAt.RcNeAt.str_list x t ⟨_, k1, k2, _, k3⟩ h0⟩
    | tuple k1 k2 k3 k4 => exact ⟨SeqAt.RcAt.str_tuple x t ⟨_, k1, k2, _, k3⟩ h0, SeqAt.RcNeAt.str_tuple x t ⟨_, k1, k2, _, k3⟩ h0⟩
    | dict => exact absurd rfl (nb _)
  | @list l o vs n xs as1 h1 h2 h3 h4 =>
    have hl : s.heap.IsList l vs := ⟨_, h1, h2, _, h3⟩
    cases rb with
    | none => exact ⟨SeqAt.RcAt.list_none hl h0, SeqAt.RcNeAt.list_none hl h0⟩
    | bool y => exact ⟨SeqAt.RcAt.list_bool y hl h0, SeqAt.RcNeAt.list_bool y hl h0⟩
    | int y u => exact ⟨SeqAt.RcAt.list_int y u hl h0, SeqAt.RcNeAt.list_int y u hl h0⟩
    | str y u => exact ⟨SeqAt.RcAt.list_str y u hl h0, SeqAt.RcNeAt.list_str y u hl h0⟩
    | tuple k1 k2 k3 k4 => exact ⟨SeqAt.RcAt.list_tuple hl ⟨_, k1, k2, _, k3⟩ h0, SeqAt.RcNeAt.list_tuple hl ⟨_, k1, k2, _, k3⟩ h0⟩
    | dict => exact absurd rfl (nb _)
    | @list l' o' vs' n' ys bs1 k1 k2 k3 k4 =>
      have ok' : (PyData.canLayAll0 xs = true ∧ PyData.canLayAll0 ys = true) ∧ min (PyData.depth (.list xs)) (PyData.depth (.list ys)) ≤ 199 + 16 * k := by simpa [eqOk] using ok
      exact ⟨SeqAt.rcAt_reads (Reads.list h1 h2 h3 h4) (Reads.list k1 k2 k3 k4) (by simpa [PyData.canLay0] using ok'.1.1) (by simpa [PyData.canLay0] using ok'.1.2) (by omega),
        SeqAt.rcNeAt_reads (Reads.list h1 h2 h3 h4) (Reads.list k1 k2 k3 k4) (by simpa [PyData.canLay0] using ok'.1.1) (by simpa [PyData.canLay0] using ok'.1.2) (by omega)⟩
  | @tuple l o vs n xs as1 h1 h2 h3 h4 =>
    have hl : s.heap.IsTuple l vs := ⟨_, h1, h2, _, h3⟩
    cases rb with
    | none => exact ⟨SeqAt.RcAt.tuple_none hl h0, SeqAt.RcNeAt.tuple_none hl h0⟩
    | bool y => exact ⟨SeqAt.RcAt.tuple_bool y hl h0, SeqAt.RcNeAt.tuple_bool y hl h0⟩
    | int y u => exact ⟨SeqAt.RcAt.tuple_int y u hl h0, SeqAt.RcNeAt.tuple_int y u hl h0⟩
    | str y u => exact ⟨SeqAt.RcAt.tuple_str y u hl h0, SeqAt.RcNeAt.tuple_str y u hl h0⟩
    | list k1 k2 k3 k4 => exact ⟨SeqAt.RcAt.tuple_list hl ⟨_, k1, k2, _, k3⟩ h0, SeqAt.RcNeAt.tuple_list hl ⟨_, k1, k2, _, k3⟩ h0⟩
    | dict => exact absurd rfl (nb _)
    | @tuple l' o' vs' n' ys bs1 k1 k2 k3 k4 =>
      have ok' : (PyData.canLayAll0 xs = true ∧ PyData.canLayAll0 ys = true) ∧ min (PyData.depth (.tuple xs)) (PyData.depth (.tuple ys)) ≤ 199 + 16 * k := by simpa [eqOk] using ok
      exact ⟨SeqAt.rcAt_reads (Reads.tuple h1 h2 h3 h4) (Reads.tuple k1 k2 k3 k4) (by simpa [PyData.canLay0] using ok'.1.1) (by simpa [PyData.canLay0] using ok'.1.2) (by omega),
        SeqAt.rcNeAt_reads (Reads.tuple h1 h2 h3 h4) (Reads.tuple k1 k2 k3 k4) (by simpa [PyData.canLay0] using ok'.1.1) (by simpa [PyData.canLay0] using ok'.1.2) (by omega)⟩
  | dict => exact absurd rfl (na _)
end
theorem dp_nodict {K : PySem.W.Frag} {H : Hp} {v : V} {d : PyData} (h : Dp K H v d) : ∀ z, d ≠ .dict z := fun z e => by subst e; cases h
theorem room200 {k : Nat} {A : Around} (r : Room k A) : A.units + 200 + 16 * k < cLine := by have := r.un; omega
def rEqG (K : PySem.W.Frag) (k : Nat) : R2 := fun x y H Q => ∃ d e, Dp K H x d ∧ Dp K H y e ∧ eqOk k d e = true ∧ Q (.bl (eqD d e)) H
def rNeG (K : PySem.W.Frag) (k : Nat) : R2 := fun x y H Q => ∃ d e, Dp K H x d ∧ Dp K H y e ∧ eqOk k d e = true ∧ Q (.bl (!eqD d e)) H
section
variable {X : Cx}
theorem op_eqG {k : Nat} (hu : X.A.units + 200 + 16 * k < cLine) : OpR X (compareOp .Eq) (rEqG X.K k) := by
  intro pins s z H x y v u Q I rx ry h
  obtain ⟨d, e, hd, he, ok, q⟩ := h
  obtain ⟨as, r1⟩ := Dp.reads I d x v hd rx
  obtain ⟨bs, r2⟩ := Dp.reads I e y u he ry
  exact (rc_any r1 r2 (dp_nodict hd) (dp_nodict he) ok hu).1 _ _ _ _ ⟨.bl _, H, I, rfl, by rw [eqD_eqv]; exact q⟩
theorem op_neG {k : Nat} (hu : X.A.units + 200 + 16 * k < cLine) : OpR X (compareOp .NotEq) (rNeG X.K k) := by
  intro pins s z H x y v u Q I rx ry h
  obtain ⟨d, e, hd, he, ok, q⟩ := h
  obtain ⟨as, r1⟩ := Dp.reads I d x v hd rx
  obtain ⟨bs, r2⟩ := Dp.reads I e y u he ry
  exact (rc_any r1 r2 (dp_nodict hd) (dp_nodict he) ok hu).2 _ _ _ _ ⟨.bl _, H, I, rfl, by rw [eqD_eqv]; exact q⟩
end
def wEq (k : Nat) : W → W → Option W
  | .d x, .d y => if eqOk k x y then some (.d (.bool (eqD x y))) else none
  | _, _ => none
def wNe (k : Nat) : W → W → Option W
  | .d x, .d y => if eqOk k x y then some (.d (.bool (!eqD x y))) else none
  | _, _ => none
section
variable {c : C0} {pos : Pos} {a b : Expr} {fa fb : Rho → Option W}
theorem oo_eq : OpOk c (wEq c.k) (fun X => rEqG X.K c.k) := fun X g H x y v u w Q h hx hy k => by
  unfold wEq at h
  split at h
  · split at h
    · rename_i ok
      cases h
      exact ⟨_, _, hx, hy, ok, k _ H (Same.refl H) (Dp.bl _)⟩
    · cases h
  · cases h
theorem oo_ne : OpOk c (wNe c.k) (fun X => rNeG X.K c.k) := fun X g H x y v u w Q h hx hy k => by
  unfold wNe at h
  split at h
  · split at h
    · rename_i ok
      cases h
      exact ⟨_, _, hx, hy, ok, k _ H (Same.refl H) (Dp.bl _)⟩
    · cases h
  · cases h
theorem ok_eq (ha : OkE c a fa) (hb : OkE c b fb) : OkE c (.Compare a [.Eq] [b] pos) (cOp2 (wEq c.k) fa fb) := ok_cmp (fun X g => op_eqG (room200 g.room)) oo_eq ha hb (nomark _)
theorem ok_ne (ha : OkE c a fa) (hb : OkE c b fb) : OkE c (.Compare a [.NotEq] [b] pos) (cOp2 (wNe c.k) fa fb) := ok_cmp (fun X g => op_neG (room200 g.room)) oo_ne ha hb (nomark _)
theorem okT_eq (ha : OkE c a fa) (hb : OkE c b fb) : OkT c (.Compare a [.Eq] [b] pos) (cT (cOp2 (wEq c.k) fa fb)) := okT_cmp (fun X g => op_eqG (room200 g.room)) oo_eq ha hb (nomark _)
theorem okT_ne (ha : OkE c a fa) (hb : OkE c b fb) : OkT c (.Compare a [.NotEq] [b] pos) (cT (cOp2 (wNe c.k) fa fb)) := okT_cmp (fun X g => op_neG (room200 g.room)) oo_ne ha hb (nomark _)

/-! ### ints -/
def wII (g : Int → Int → W) : W → W → Option W
  | .d (.int i), .d (.int j) => some (g i j)
  | _, _ => none
abbrev wLt := wII fun i j => .d (.bool (decide (i < j)))
abbrev wLe := wII fun i j => .d (.bool (decide (i ≤ j)))
abbrev wGt := wII fun i j => .d (.bool (decide (j < i)))
abbrev wGe := wII fun i j => .d (.bool (decide (j ≤ i)))
theorem int_of {K : PySem.W.Frag} {H : Hp} {v : V} {i : Int} (h : Dp K H v (.int i)) : v = .int i := by cases h; rfl
theorem str_of {K : PySem.W.Frag} {H : Hp} {v : V} {i : Str} (h : Dp K H v (.str i)) : v = .str i := by cases h; rfl
theorem oo_II {g : Int → Int → V} {gw : Int → Int → PyData} (hg : ∀ K H i j, Dp K H (g i j) (gw i j)) : OpOk c (wII fun i j => .d (gw i j)) (fun _ => rI0 g) := fun X gd H x y v u w Q h hx hy k => by
  unfold wII at h
  split at h
  · rename_i i j
    cases h
    exact ⟨i, j, int_of hx, int_of hy, k _ H (Same.refl H) (hg _ _ _ _)⟩
  · cases h
theorem ok_lt (ha : OkE c a fa) (hb : OkE c b fb) : OkE c (.Compare a [.Lt] [b] pos) (cOp2 wLt fa fb) := ok_cmp (fun X g => op_lt) (oo_II fun _ _ _ _ => Dp.bl _) ha hb (nomark _)
theorem ok_le (ha : OkE c a fa) (hb : OkE c b fb) : OkE c (.Compare a [.LtE] [b] pos) (cOp2 wLe fa fb) := ok_cmp (fun X g => op_le) (oo_II fun _ _ _ _ => Dp.bl _) ha hb (nomark _)
theorem ok_gt (ha : OkE c a fa) (hb : OkE c b fb) : OkE c (.Compare a [.Gt] [b] pos) (cOp2 wGt fa fb) := ok_cmp (fun X g => op_gt) (oo_II fun _ _ _ _ => Dp.bl _) ha hb (nomark _)
theorem ok_ge (ha : OkE c a fa) (hb : OkE c b fb) : OkE c (.Compare a [.GtE] [b] pos) (cOp2 wGe fa fb) := ok_cmp (fun X g => op_ge) (oo_II fun _ _ _ _ => Dp.bl _) ha hb (nomark _)
theorem okT_lt (ha : OkE c a fa) (hb : OkE c b fb) : OkT c (.Compare a [.Lt] [b] pos) (cT (cOp2 wLt fa fb)) := okT_cmp (fun X g => op_lt) (oo_II fun _ _ _ _ => Dp.bl _) ha hb (nomark _)
theorem okT_le (ha : OkE c a fa) (hb : OkE c b fb) : OkT c (.Compare a [.LtE] [b] pos) (cT (cOp2 wLe fa fb)) := okT_cmp (fun X g => op_le) (oo_II fun _ _ _ _ => Dp.bl _) ha hb (nomark _)
theorem okT_gt (ha : OkE c a fa) (hb : OkE c b fb) : OkT c (.Compare a [.Gt] [b] pos) (cT (cOp2 wGt fa fb)) := okT_cmp (fun X g => op_gt) (oo_II fun _ _ _ _ => Dp.bl _) ha hb (nomark _)
theorem okT_ge (ha : OkE c a fa) (hb : OkE c b fb) : OkT c (.Compare a [.GtE] [b] pos) (cT (cOp2 wGe fa fb)) := okT_cmp (fun X g => op_ge) (oo_II fun _ _ _ _ => Dp.bl _) ha hb (nomark _)
/-- i + j, s + t -/
def wAdd : W → W → Option W
  | .d (.int i), .d (.int j) => some (.d (.int (i + j)))
  | .d (.str s), .d (.str t) => if s.length + t.length ≤ 100000 then some (.d (.str (s ++ t))) else none
  | _, _ => none
theorem ok_add (ha : OkE c a fa) (hb : OkE c b fb) : OkE c (.BinOp a .Add b pos) (cOp2 wAdd fa fb) :=
  ok_op (rr := fun _ => _) (fun X g => OpR.or op_add op_add_str) (fun X gd H x y v u w Q h hx hy k => by
    unfold wAdd at h
    split at h
    · rename_i i j
      cases h
      exact .inl ⟨i, j, int_of hx, int_of hy, k _ H (Same.refl H) (Dp.int _)⟩
    · rename_i s t
      split at h
      · rename_i hz
        cases h
        exact .inr ⟨s, t, str_of hx, str_of hy, sz hz, k _ H (Same.refl H) (Dp.str _)⟩
      · cases h
    · cases h) ha hb
abbrev wSub := wII fun i j => .d (.int (i - j))
theorem ok_sub (ha : OkE c a fa) (hb : OkE c b fb) : OkE c (.BinOp a .Sub b pos) (cOp2 wSub fa fb) := ok_op (fun X g => op_sub) (oo_II fun _ _ _ _ => Dp.int _) ha hb
/-- ints, under a condition -/
def wIC (C : Int → Int → Prop) [∀ i j, Decidable (C i j)] (g : Int → Int → Int) : W → W → Option W
  | .d (.int i), .d (.int j) => if C i j then some (.d (.int (g i j))) else none
  | _, _ => none
theorem oo_IC {C : Int → Int → Prop} [∀ i j, Decidable (C i j)] {g : Int → Int → Int} {C' : Int → Int → Prop} (hc : ∀ i j, C i j → C' i j) : OpOk c (wIC C g) (fun _ => rI C' fun i j => .int (g i j)) := fun X gd H x y v u w Q h hx hy k => by
  unfold wIC at h
  split at h
  · rename_i i j
    split at h
    · rename_i hcc
      cases h
      exact ⟨i, j, int_of hx, int_of hy, hc i j hcc, k _ H (Same.refl H) (Dp.int _)⟩
    · cases h
  · cases h
def MulC (i j : Int) : Prop := Builtin.Int.intBits i ≤ 64 ∨ Builtin.Int.intBits j ≤ 64 ∨ Builtin.Int.intBits i + Builtin.Int.intBits j ≤ 4000000
instance (i j : Int) : Decidable (MulC i j) := by unfold MulC; exact inferInstance
theorem mulC_ok {i j : Int} (h : MulC i j) : IntMulOk i j := by
  rcases h with h | h | h
  · exact .of_left h
  · exact .of_right h
  · have e : Builtin.Int.intTooBig (Builtin.Int.intBits i + Builtin.Int.intBits j) = false := by
      unfold Builtin.Int.intTooBig bitsLine
      exact decide_eq_false (by omega)
    unfold IntMulOk
    rw [e]
    simp
abbrev wMul := wIC MulC fun i j => i * j
theorem op_mulG {X : Cx} : OpR X (binaryOp .Mult) (rI IntMulOk fun i j => .int (i * j)) := opI fun _ _ _ _ _ _ _ hc q => PyProof.Rows.mul_int q hc
theorem ok_mul (ha : OkE c a fa) (hb : OkE c b fb) : OkE c (.BinOp a .Mult b pos) (cOp2 wMul fa fb) := ok_op (fun X g => op_mulG) (oo_IC fun _ _ h => mulC_ok h) ha hb
abbrev wDiv := wIC (fun _ j => 0 < j ∧ j < 1073741824) fun i j => i / j
theorem ok_div (ha : OkE c a fa) (hb : OkE c b fb) : OkE c (.BinOp a .FloorDiv b pos) (cOp2 wDiv fa fb) := ok_op (fun X g => op_fdiv) (oo_IC fun _ _ h => h) ha hb
abbrev wMod := wIC (fun _ j => 0 < j) fun i j => i % j
theorem ok_mod (ha : OkE c a fa) (hb : OkE c b fb) : OkE c (.BinOp a .Mod b pos) (cOp2 wMod fa fb) := ok_op (fun X g => op_mod) (oo_IC fun _ _ h => h) ha hb
abbrev wPow := wIC (fun i j => 0 ≤ j ∧ j ≤ 1000000 ∧ i.natAbs < 2 ^ 64) fun i j => i ^ j.toNat
theorem ok_pow (ha : OkE c a fa) (hb : OkE c b fb) : OkE c (.BinOp a .Pow b pos) (cOp2 wPow fa fb) := ok_op (fun X g => op_pow) (oo_IC fun _ _ h => h) ha hb
def wNeg : W → Option W
  | .d (.int i) => some (.d (.int (-i)))
  | _ => none
def cOp1 (g : W → Option W) (f : Rho → Option W) : Rho → Option W := fun r => match f r with
  | some x => g x
  | none => none
theorem cOp1_some {g : W → Option W} {r : Rho} {w : W} (h : cOp1 g fa r = some w) : ∃ x, fa r = some x ∧ g x = some w := by
  unfold cOp1 at h
  split at h
  · rename_i x e1
    exact ⟨x, e1, h⟩
  · cases h
theorem ok_neg (ha : OkE c a fa) : OkE c (.UnaryOp .USub a pos) (cOp1 wNeg fa) := fun X gd r w h => by
  obtain ⟨x, e1, e2⟩ := cOp1_some h
  unfold wNeg at e2
  split at e2
  · rename_i i
    cases e2
    exact pe_imp (pe_un un_neg (ha X gd r _ e1)) fun s H Q q => ⟨q.1, fun v H1 s1 hv => ⟨i, int_of hv, q.2 _ H1 s1 (Dp.int _)⟩⟩
  · cases e2
/-! ### is None, is True, is False -/
def wIsN (neg : Bool) : W → Option W
  | .d x => some (.d (.bool (match x with | .none => !neg | _ => neg)))
  | .o _ _ => some (.d (.bool neg))
theorem isN_of {T : Tab} {K : PySem.W.Frag} {mg : Str → Option Value} {H : Hp} {v : V} {w : W} {z : W} (h : Rw T K mg H v w) {neg : Bool} (e : wIsN neg w = some z) : z = .d (.bool (if neg then !decide (v = .non) else decide (v = .non))) := by
  cases w with
  | d x =>
    have h : Dp K H v x := h
    cases h <;> cases neg <;> (simp [wIsN] at e; subst e; simp)
  | o c fs =>
    obtain ⟨a, C, dx, vs, rfl, _⟩ := h
    cases neg <;> (simp [wIsN] at e; subst e; simp)
theorem ok_isN {j p2} (ha : OkE c a fa) : OkE c (.Compare a [.Is] [.Constant .none j p2] pos) (cOp1 (wIsN false) fa) := fun X gd r w h => by
  obtain ⟨x, e1, e2⟩ := cOp1_some h
  refine pe_imp (pe_cmp (pc_isN (ha X gd r _ e1)) rfl) fun s H Q q => ⟨q.1, fun v H1 s1 hv => ?_⟩
  have e3 := isN_of hv e2
  subst e3
  exact q.2 _ H1 s1 (Dp.bl _)
theorem ok_notN {j p2} (ha : OkE c a fa) : OkE c (.Compare a [.IsNot] [.Constant .none j p2] pos) (cOp1 (wIsN true) fa) := fun X gd r w h => by
  obtain ⟨x, e1, e2⟩ := cOp1_some h
  refine pe_imp (pe_cmp (pc_notN (ha X gd r _ e1)) rfl) fun s H Q q => ⟨q.1, fun v H1 s1 hv => ?_⟩
  have e3 := isN_of hv e2
  subst e3
  exact q.2 _ H1 s1 (Dp.bl _)
/-- a comparison that is a test -/
theorem okT_of1 {op : CmpOp} {t : TE → TE} {g : W → Option W} {e : Expr} (hp : ∀ X, Gd c X → ∀ ta, PE X a ta → PC X op a e (t ta)) (hm : behindInMarks op e = false)
    (ht : ∀ X, Gd c X → ∀ r x w, g x = some w → ∀ s H Q, tD c.T X r w s H Q → t (tD c.T X r x) s H Q) (ha : OkE c a fa) : OkT c (.Compare a [op] [e] pos) (cT (cOp1 g fa)) := fun X gd r k h => by
  obtain ⟨x, e1, e2⟩ := cOp1_some (cT_some h)
  refine pt_imp (pt_cmp (hp X gd _ (ha X gd r _ e1)) hm) fun s H Q q => ?_
  refine ht X gd r x _ e2 s H _ ⟨q.1, fun v H1 s1 hv => ?_⟩
  exact ⟨k, bl_of hv, q.2 H1 s1⟩
theorem okT_isN {j p2} (ha : OkE c a fa) : OkT c (.Compare a [.Is] [.Constant .none j p2] pos) (cT (cOp1 (wIsN false) fa)) :=
  okT_of1 (fun X _ ta h => pc_isN h) rfl (fun X gd r x w e s H Q q => ⟨q.1, fun v H1 s1 hv => by
    have e3 := isN_of hv e
    subst e3
    exact q.2 _ H1 s1 (Dp.bl _)⟩) ha
theorem okT_notN {j p2} (ha : OkE c a fa) : OkT c (.Compare a [.IsNot] [.Constant .none j p2] pos) (cT (cOp1 (wIsN true) fa)) :=
  okT_of1 (fun X _ ta h => pc_notN h) rfl (fun X gd r x w e s H Q q => ⟨q.1, fun v H1 s1 hv => by
    have e3 := isN_of hv e
    subst e3
    exact q.2 _ H1 s1 (Dp.bl _)⟩) ha

/-! ### in, not in -/
def wInS (k : Nat) (neg : Bool) : W → W → Option W
  | .d x, .d y => match y with
    | .str z => match x with
      | .str i => some (.d (.bool (if neg then !(!(Builtin.Str.occurrences z i 0 z.length 1).isEmpty) else !(Builtin.Str.occurrences z i 0 z.length 1).isEmpty)))
      | _ => none
    | .list ds => if PyData.canLay0 x && PyData.canLayAll0 ds && decide (min (PyData.depthAll ds) x.depth ≤ 190 + 16 * k) then some (.d (.bool (if neg then !(ds.any fun y => PyData.eqv y x) else ds.any fun y => PyData.eqv y x))) else none
    | .tuple ds => if PyData.canLay0 x && PyData.canLayAll0 ds && decide (min (PyData.depthAll ds) x.depth ≤ 190 + 16 * k) then some (.d (.bool (if neg then !(ds.any fun y => PyData.eqv y x) else ds.any fun y => PyData.eqv y x))) else none
    | _ => none
  | _, _ => none
def rInG (K : PySem.W.Frag) (k : Nat) (neg : Bool) : R2 := fun x y H Q => (∃ i j, x = .str i ∧ y = .str j ∧ Q (.bl (if neg then !(!(Builtin.Str.occurrences j i 0 j.length 1).isEmpty) else !(Builtin.Str.occurrences j i 0 j.length 1).isEmpty)) H) ∨
  ∃ d ds, Dp K H x d ∧ (Dp K H y (.list ds) ∨ Dp K H y (.tuple ds)) ∧ PyData.canLay0 d = true ∧ PyData.canLayAll0 ds = true ∧ min (PyData.depthAll ds) d.depth ≤ 190 + 16 * k ∧ Q (.bl (if neg then !(ds.any fun z => PyData.eqv z d) else ds.any fun z => PyData.eqv z d)) H
theorem op_inG {X : Cx} {k : Nat} (hu : X.A.units + 200 + 16 * k < cLine) : OpR X (compareOp .In) (rInG X.K k false) := by
  intro pins s z H x y v u Q I rx ry h
  rcases h with ⟨i, j, rfl, rfl, q⟩ | ⟨d, ds, hd, he, sd, se, hm, q⟩
  · exact op_in_str pins s z H _ _ v u Q I rx ry ⟨i, j, rfl, rfl, q⟩
  · obtain ⟨as, r1⟩ := Dp.reads I d x v hd rx
    rcases he with he | he
    · obtain ⟨bs, r2⟩ := Dp.reads I (.list ds) y u he ry
      exact SeqAt.in_list_reads r2 r1 se sd (by omega) ⟨.bl _, H, I, rfl, q⟩
    · obtain ⟨bs, r2⟩ := Dp.reads I (.tuple ds) y u he ry
      exact SeqAt.in_tuple_reads r2 r1 se sd (by omega) ⟨.bl _, H, I, rfl, q⟩
theorem op_notinG {X : Cx} {k : Nat} (hu : X.A.units + 200 + 16 * k < cLine) : OpR X (compareOp .NotIn) (rInG X.K k true) := by
  intro pins s z H x y v u Q I rx ry h
  rcases h with ⟨i, j, rfl, rfl, q⟩ | ⟨d, ds, hd, he, sd, se, hm, q⟩
  · exact op_notin_str pins s z H _ _ v u Q I rx ry ⟨i, j, rfl, rfl, q⟩
  · obtain ⟨as, r1⟩ := Dp.reads I d x v hd rx
    rcases he with he | he
    · obtain ⟨bs, r2⟩ := Dp.reads I (.list ds) y u he ry
      exact SeqAt.notIn_list_reads r2 r1 se sd (by omega) ⟨.bl _, H, I, rfl, q⟩
    · obtain ⟨bs, r2⟩ := Dp.reads I (.tuple ds) y u he ry
      exact SeqAt.notIn_tuple_reads r2 r1 se sd (by omega) ⟨.bl _, H, I, rfl, q⟩
theorem oo_in {neg : Bool} : OpOk c (wInS c.k neg) (fun X => rInG X.K c.k neg) := fun X g H x y v u w Q h hx hy k => by
  cases v with
  | o _ _ => cases h
  | d d =>
    cases u with
    | o _ _ => cases h
    | d y' =>
      cases y' with
      | str j =>
        cases d with
        | str i =>
          cases h
          exact .inl ⟨i, j, str_of hx, str_of hy, k _ H (Same.refl H) (Dp.bl _)⟩
        | _ => cases h
      | list ds =>
        simp only [wInS] at h
        split at h
        · rename_i hc
          have hc' : (PyData.canLay0 d = true ∧ PyData.canLayAll0 ds = true) ∧ min (PyData.depthAll ds) d.depth ≤ 190 + 16 * c.k := by simpa only [Bool.and_eq_true, decide_eq_true_eq] using hc
          cases h
          exact .inr ⟨d, ds, hx, .inl hy, hc'.1.1, hc'.1.2, hc'.2, k _ H (Same.refl H) (Dp.bl _)⟩
        · cases h
      | tuple ds =>
        simp only [wInS] at h
        split at h
        · rename_i hc
          have hc' : (PyData.canLay0 d = true ∧ PyData.canLayAll0 ds = true) ∧ min (PyData.depthAll ds) d.depth ≤ 190 + 16 * c.k := by simpa only [Bool.and_eq_true, decide_eq_true_eq] using hc
          cases h
          exact .inr ⟨d, ds, hx, .inr hy, hc'.1.1, hc'.1.2, hc'.2, k _ H (Same.refl H) (Dp.bl _)⟩
        · cases h
      | _ => cases h
theorem ok_in (ha : OkE c a fa) (hb : OkE c b fb) (hm : behindInMarks .In b = false := by rfl) : OkE c (.Compare a [.In] [b] pos) (cOp2 (wInS c.k false) fa fb) := ok_cmp (fun X g => op_inG (room200 g.room)) oo_in ha hb hm
theorem ok_notin (ha : OkE c a fa) (hb : OkE c b fb) (hm : behindInMarks .NotIn b = false := by rfl) : OkE c (.Compare a [.NotIn] [b] pos) (cOp2 (wInS c.k true) fa fb) := ok_cmp (fun X g => op_notinG (room200 g.room)) oo_in ha hb hm
theorem okT_in (ha : OkE c a fa) (hb : OkE c b fb) (hm : behindInMarks .In b = false := by rfl) : OkT c (.Compare a [.In] [b] pos) (cT (cOp2 (wInS c.k false) fa fb)) := okT_cmp (fun X g => op_inG (room200 g.room)) oo_in ha hb hm
theorem okT_notin (ha : OkE c a fa) (hb : OkE c b fb) (hm : behindInMarks .NotIn b = false := by rfl) : OkT c (.Compare a [.NotIn] [b] pos) (cT (cOp2 (wInS c.k true) fa fb)) := okT_cmp (fun X g => op_notinG (room200 g.room)) oo_in ha hb hm

/-! ### subscripts -/
def wIx : W → W → Option W
  | .d (.tuple xs), .d (.int i) => match atI xs i with
    | some x => some (.d x)
    | none => none
  | .d (.list xs), .d (.int i) => match atI xs i with
    | some x => some (.d x)
    | none => none
  | .d (.str z), .d (.int i) => if z.length ≤ 100000 then match atI z.cps.toList i with
      | some x => some (.d (.str ⟨#[x]⟩))
      | none => none
    else none
  | _, _ => none
theorem dpa_atI {K : PySem.W.Frag} {H : Hp} {ds : List PyData} {vs : List V} (h : DpAll K H vs ds) {i : Int} {d : PyData} (e : atI ds i = some d) : ∃ v, atI vs i = some v ∧ Dp K H v d := by
  have hl := dpa_len ds vs h
  unfold atI at e ⊢
  rw [hl]
  cases q : ixN ds.length i with
  | none => rw [q] at e; cases e
  | some j =>
    rw [q] at e
    exact dpa_get ds vs j d h e
theorem oo_ix : OpOk c wIx (fun X => rIx X.K) := fun X g H x y v u w Q h hx hy k => by
  unfold wIx at h
  split at h
  · rename_i xs i
    split at h
    · rename_i d e
      cases h
      cases hx with
      | tup hs ha =>
        obtain ⟨v, h1, h2⟩ := dpa_atI ha e
        exact .inr (.inl ⟨_, _, i, v, rfl, int_of hy, hs, h1, k _ H (Same.refl H) h2⟩)
    · cases h
  · rename_i xs i
    split at h
    · rename_i d e
      cases h
      cases hx with
      | lst hs ha =>
        obtain ⟨v, h1, h2⟩ := dpa_atI ha e
        exact .inl ⟨_, _, i, v, rfl, int_of hy, hs, h1, k _ H (Same.refl H) h2⟩
    · cases h
  · rename_i z i
    split at h
    · rename_i hz
      split at h
      · rename_i d e
        cases h
        exact .inr (.inr ⟨z, i, d, str_of hx, int_of hy, sz hz, e, k _ H (Same.refl H) (Dp.str _)⟩)
      · cases h
    · cases h
  · cases h
theorem ok_ix (ha : OkE c a fa) (hb : OkE c b fb) (hs : PlainIx b := by intro _ _; rfl) : OkE c (.Subscript a b pos) (cOp2 wIx fa fb) := fun X gd r w h => by
  obtain ⟨x, y, e1, e2, e3⟩ := cOp2_some h
  exact pe_imp (pe_ix ix_seq (ha X gd r x e1) (hb X gd r y e2) hs) (tOp_of oo_ix gd e3)

/-! ### calls of one's own defs -/
def cCall (F : Fs) (i : Nat) (f : Rho → Option (List W)) : Rho → Option W := fun r => match f r with
  | some ws => match F i ws with
    | some z => some z.val
    | none => none
  | none => none
def lCall (F : Fs) (i : Nat) (f : Rho → Option (List W)) : Rho → Option (List PyData) := fun r => match f r with
  | some ws => match F i ws with
    | some (.fl xs) => some xs
    | _ => none
  | none => none
variable {x : Str} {p : Pos} {e : Expr} {es : List Expr} {fs : Rho → Option (List W)} {i : Nat}
theorem ok_call (i : Nat) (hm : c.T.mo i = none) (hx : c.T.fn i = x) (hk : c.sc.names.lookup x = some .globalImplicit) (ha : OkA c (e :: es) fs) (hd : (x == ("__debug__" : Str)) = false := by decide)
    (he : ∀ env, starEach (e :: es) env = (false, eval e env) :: starEach es env := by intro _; rfl) (hpl : ∀ env, (backTo pos (starEach es env)).any (·.1) = false := by intro _; rfl) :
    OkE c (.Call (.Name x p) (e :: es) [] pos) (cCall c.F i fs) := fun X gd r w h => by
  unfold cCall at h
  split at h
  · rename_i ws e1
    split at h
    · rename_i z e2
      cases h
      obtain ⟨f, fd, h3, h4, h5, _⟩ := (gd.cal i ws z e2).ex
      obtain ⟨h1, h2⟩ := h5 hm
      rw [hx] at h1
      refine pe_imp (pe_call h4 gd.room ((gd.kind x).trans hk) h1 h2 h3 .nil pass0 (ha X gd r ws e1) hd (he _) (hpl _)) fun s H Q q => ⟨q.1, fun vs H1 s1 hv => ?_⟩
      show spR c.T X.K X.mg ws z (vs ++ []) H1 Q E0
      rw [List.append_nil]
      refine ⟨hv, ?_⟩
      cases z with
      | w x => exact fun v H2 s2 hv2 => q.2 v H2 (s1.trans s2) hv2
      | fl xs => exact fun p vs' H2 hp s2 h2 hd2 => q.2 _ H2 (s1.trans s2) (Dp.lst (SqL.of h2) hd2)
    · cases h
  · cases h
theorem ok_callL (i : Nat) (hm : c.T.mo i = none) (hx : c.T.fn i = x) (hk : c.sc.names.lookup x = some .globalImplicit) (ha : OkA c (e :: es) fs) (hd : (x == ("__debug__" : Str)) = false := by decide)
    (he : ∀ env, starEach (e :: es) env = (false, eval e env) :: starEach es env := by intro _; rfl) (hpl : ∀ env, (backTo pos (starEach es env)).any (·.1) = false := by intro _; rfl) :
    OkL c (.Call (.Name x p) (e :: es) [] pos) (lCall c.F i fs) := fun X gd r w h => by
  unfold lCall at h
  split at h
  · rename_i ws e1
    split at h
    · rename_i xs e2
      cases h
      obtain ⟨f, fd, h3, h4, h5, _⟩ := (gd.cal i ws _ e2).ex
      obtain ⟨h1, h2⟩ := h5 hm
      rw [hx] at h1
      refine pe_imp (pe_call h4 gd.room ((gd.kind x).trans hk) h1 h2 h3 .nil pass0 (ha X gd r ws e1) hd (he _) (hpl _)) fun s H Q q => ⟨q.1, fun vs H1 s1 hv => ?_⟩
      show spR c.T X.K X.mg ws (.fl w) (vs ++ []) H1 Q E0
      rw [List.append_nil]
      exact ⟨hv, fun p vs' H2 hp s2 h2 hd2 => q.2 p vs' H2 (s1.free hp) (s1.trans s2) h2 hd2⟩
    · cases h
  · cases h
/-! ### built-ins: len, isinstance, max, min, abs -/
def wLen : W → Option W
  | .d (.str z) => if z.length ≤ 100000 then some (.d (.int z.length)) else none
  | .d (.list xs) => some (.d (.int xs.length))
  | .d (.tuple xs) => some (.d (.int xs.length))
  | _ => none
theorem okA_one {e : Expr} (h : OkE c e fa) (hs : ∀ env, starEach [e] env = [(false, eval e env)]) : OkA c [e] (aCons fa aNil) := okA_cons h okA_nil hs
theorem ok_len (hb : ("len" : Str) ∈ c.T.bl) (hk : c.sc.names.lookup ("len" : Str) = some .globalImplicit) (ha : OkE c e fa) (hs : ∀ env, starEach [e] env = [(false, eval e env)] := by intro _; rfl) :
    OkE c (.Call (.Name "len" p) [e] [] pos) (cOp1 wLen fa) := fun X gd r w h => by
  obtain ⟨x, e1, e2⟩ := cOp1_some h
  refine pe_imp (pe_callB call_len ((gd.kind _).trans hk) (gd.tab.bl _ hb) PySem.boot_len (pa_cons (ha X gd r x e1) pa_nil (hs X.env)) (he := hs X.env)) fun s H Q q => ⟨q.1, fun v H1 s1 hv => ?_⟩
  unfold wLen at e2
  split at e2
  · rename_i z
    split at e2
    · rename_i hz
      cases e2
      obtain rfl := str_of hv
      exact ⟨_, z.length, rfl, ⟨sz hz, rfl⟩, q.2 _ H1 s1 (Dp.int _)⟩
    · cases e2
  · rename_i xs
    cases e2
    cases hv with
    | lst hs ha => exact ⟨_, xs.length, rfl, .inl ⟨_, hs, (dpa_len _ _ ha).symm⟩, q.2 _ H1 s1 (Dp.int _)⟩
  · rename_i xs
    cases e2
    cases hv with
    | tup hs ha => exact ⟨_, xs.length, rfl, .inr ⟨_, hs, (dpa_len _ _ ha).symm⟩, q.2 _ H1 s1 (Dp.int _)⟩
  · cases e2
def tyN : PyData → String
  | .none => "NoneType"
  | .bool _ => "bool"
  | .int _ => "int"
  | .str _ => "str"
  | .list _ => "list"
  | .tuple _ => "tuple"
  | .dict _ => "dict"
theorem tyX_of {K : PySem.W.Frag} {H : Hp} {v : V} {d : PyData} (h : Dp K H v d) : TyX K H v (.type (tyN d)) := by
  cases h with
  | non => exact .base .non
  | bl b => exact .base (.bl b)
  | int i => exact .base (.int i)
  | str x => exact .base (.str x)
  | lst hs ha =>
    rcases hs with (h | ⟨o, h⟩) | ⟨o, its, n, h1, h2, _⟩
    · exact .base (.lst h)
    · exact .base (.frz h)
    · exact .kList h1 h2
  | tup hs ha =>
    rcases hs with (h | ⟨o, h⟩) | ⟨o, its, n, h1, h2, _⟩
    · exact .base (.tup h)
    · exact .fTuple h
    · exact .kTuple h1 h2
/-- isinstance(x, T), T one of the built-in ones, told by g -/
def wIsi (g : PyData → Bool) : W → Option W
  | .d x => some (.d (.bool (g x)))
  | _ => none
structure IsTy (nm : String) (x : Str) (g : PyData → Bool) : Prop where
  boot : bootBuiltins x = some (.type nm)
  ne : x ≠ "__name__"
  nd : (x == ("__debug__" : Str)) = false
  kit : ∀ d, (∀ z, d ≠ .dict z) → kitB (tyN d) nm = some (g d)
def isTup : PyData → Bool
  | .tuple _ => true
  | _ => false
def isStr : PyData → Bool
  | .str _ => true
  | _ => false
def isInt : PyData → Bool
  | .int _ => true
  | .bool _ => true
  | _ => false
def isBool : PyData → Bool
  | .bool _ => true
  | _ => false
def isLst : PyData → Bool
  | .list _ => true
  | _ => false
theorem ty_tuple : IsTy "tuple" "tuple" isTup := ⟨by decide +kernel, by decide, by decide, fun d h => by cases d <;> first | exact absurd rfl (h _) | (simp only [tyN, isTup, isStr, isInt, isBool, isLst]; decide +kernel)⟩
theorem ty_str : IsTy "str" "str" isStr := ⟨by decide +kernel, by decide, by decide, fun d h => by cases d <;> first | exact absurd rfl (h _) | (simp only [tyN, isTup, isStr, isInt, isBool, isLst]; decide +kernel)⟩
theorem ty_int : IsTy "int" "int" isInt := ⟨by decide +kernel, by decide, by decide, fun d h => by cases d <;> first | exact absurd rfl (h _) | (simp only [tyN, isTup, isStr, isInt, isBool, isLst]; decide +kernel)⟩
theorem ty_bool : IsTy "bool" "bool" isBool := ⟨by decide +kernel, by decide, by decide, fun d h => by cases d <;> first | exact absurd rfl (h _) | (simp only [tyN, isTup, isStr, isInt, isBool, isLst]; decide +kernel)⟩
theorem ty_list : IsTy "list" "list" isLst := ⟨by decide +kernel, by decide, by decide, fun d h => by cases d <;> first | exact absurd rfl (h _) | (simp only [tyN, isTup, isStr, isInt, isBool, isLst]; decide +kernel)⟩
theorem boot_isi : bootBuiltins "isinstance" = some (.builtin "isinstance") := by decide +kernel
theorem ok_isi {nm : String} {y : Str} {g : PyData → Bool} {p2 : Pos} (ty : IsTy nm y g) (hb : ("isinstance" : Str) ∈ c.T.bl) (hk : c.sc.names.lookup ("isinstance" : Str) = some .globalImplicit) (hb2 : y ∈ c.T.bl) (hk2 : c.sc.names.lookup y = some .globalImplicit)
    (ha : OkE c e fa) (hs : ∀ env (e2 : Expr), starEach (e :: [Expr.Name y p2]) env = (false, eval e env) :: [(false, eval (Expr.Name y p2) env)] := by intro _ _; rfl) :
    OkE c (.Call (.Name "isinstance" p) [e, .Name y p2] [] pos) (cOp1 (wIsi g) fa) := fun X gd r w h => by
  obtain ⟨x, e1, e2⟩ := cOp1_some h
  have hn : PE X (.Name y p2) (tC (.ty nm)) := pe_bltn ((gd.kind _).trans hk2) (gd.tab.bl _ hb2) ty.boot rfl ty.ne ty.nd
  refine pe_imp (pe_callB call_isi ((gd.kind _).trans hk) (gd.tab.bl _ hb) boot_isi (pa_cons (ha X gd r x e1) (pa_cons hn pa_nil) (hs X.env e)) (he := hs X.env e)) fun s H Q q => ⟨q.1, fun v H1 s1 hv => ?_⟩
  unfold wIsi at e2
  split at e2
  · rename_i d
    cases e2
    have hv : Dp X.K H1 v d := hv
    exact ⟨v, .ty nm, .type (tyN d), .type nm, g d, rfl, .ty nm, tyX_of hv, kit_ty (ty.kit d (dp_nodict hv)), q.2 _ H1 s1 (Dp.bl _)⟩
  · cases e2
abbrev wMax := wII fun i j => .d (.int (if j > i then j else i))
abbrev wMin := wII fun i j => .d (.int (if j < i then j else i))
theorem boot_max : bootBuiltins "max" = some (.builtin "max") := by decide +kernel
theorem boot_min : bootBuiltins "min" = some (.builtin "min") := by decide +kernel
theorem boot_abs : bootBuiltins "abs" = some (.builtin "abs") := by decide +kernel
theorem wII_some {g : Int → Int → W} {x y w : W} (h : wII g x y = some w) : ∃ i j, x = .d (.int i) ∧ y = .d (.int j) ∧ w = g i j := by
  unfold wII at h
  split at h
  · rename_i i j
    cases h
    exact ⟨i, j, rfl, rfl, rfl⟩
  · cases h
theorem ok_max (hb : ("max" : Str) ∈ c.T.bl) (hk : c.sc.names.lookup ("max" : Str) = some .globalImplicit) (ha : OkE c a fa) (hb' : OkE c b fb) (hs : ∀ env, starEach [a, b] env = [(false, eval a env), (false, eval b env)] := by intro _; rfl) (hs2 : ∀ env, starEach [b] env = [(false, eval b env)] := by intro _; rfl) :
    OkE c (.Call (.Name "max" p) [a, b] [] pos) (cOp2 wMax fa fb) := fun X gd r w h => by
  obtain ⟨x, y, e1, e2, e3⟩ := cOp2_some h
  obtain ⟨i, j, rfl, rfl, rfl⟩ := wII_some e3
  have h1 : starEach [a, b] X.env = (false, eval a X.env) :: starEach [b] X.env := by rw [hs, hs2]
  refine pe_imp (pe_callB (call_max2 gd.calm) ((gd.kind _).trans hk) (gd.tab.bl _ hb) boot_max (pa_cons (ha X gd r _ e1) (pa_cons (hb' X gd r _ e2) pa_nil (hs2 X.env)) h1) (he := h1) (hpl := by rw [hs2]; rfl)) fun s H Q q => ⟨q.1, fun v H1 s1 hv => ⟨rv_mono s1 q.1, fun u H2 s2 hu => ?_⟩⟩
  obtain rfl := int_of hv
  obtain rfl := int_of hu
  exact ⟨i, j, rfl, q.2 _ H2 (s1.trans s2) (Dp.int _)⟩
theorem ok_min (hb : ("min" : Str) ∈ c.T.bl) (hk : c.sc.names.lookup ("min" : Str) = some .globalImplicit) (ha : OkE c a fa) (hb' : OkE c b fb) (hs : ∀ env, starEach [a, b] env = [(false, eval a env), (false, eval b env)] := by intro _; rfl) (hs2 : ∀ env, starEach [b] env = [(false, eval b env)] := by intro _; rfl) :
    OkE c (.Call (.Name "min" p) [a, b] [] pos) (cOp2 wMin fa fb) := fun X gd r w h => by
  obtain ⟨x, y, e1, e2, e3⟩ := cOp2_some h
  obtain ⟨i, j, rfl, rfl, rfl⟩ := wII_some e3
  have h1 : starEach [a, b] X.env = (false, eval a X.env) :: starEach [b] X.env := by rw [hs, hs2]
  refine pe_imp (pe_callB (call_min2 gd.calm) ((gd.kind _).trans hk) (gd.tab.bl _ hb) boot_min (pa_cons (ha X gd r _ e1) (pa_cons (hb' X gd r _ e2) pa_nil (hs2 X.env)) h1) (he := h1) (hpl := by rw [hs2]; rfl)) fun s H Q q => ⟨q.1, fun v H1 s1 hv => ⟨rv_mono s1 q.1, fun u H2 s2 hu => ?_⟩⟩
  obtain rfl := int_of hv
  obtain rfl := int_of hu
  exact ⟨i, j, rfl, q.2 _ H2 (s1.trans s2) (Dp.int _)⟩
end
end Nm
namespace Nm
open PySem L2

/-! ### the heap without the lists that are one's own -/
open Classical in
noncomputable def mask (H : Hp) (O : Addr → Prop) : Hp := fun b => if O b then none else H b
theorem mask_in {H : Hp} {O : Addr → Prop} {b : Addr} (h : O b) : mask H O b = none := if_pos h
theorem mask_out {H : Hp} {O : Addr → Prop} {b : Addr} (h : ¬ O b) : mask H O b = H b := if_neg h
theorem mask_some {H : Hp} {O : Addr → Prop} {b : Addr} {o : HO} (h : mask H O b = some o) : ¬ O b ∧ H b = some o := by
  by_cases q : O b
  · rw [mask_in q] at h; cases h
  · rw [mask_out q] at h; exact ⟨q, h⟩
theorem mask_sub {H : Hp} {O : Addr → Prop} : Same (mask H O) H := fun b o h => (mask_some h).2
theorem mask_mono {H H' : Hp} {O : Addr → Prop} (e : Same H H') : Same (mask H O) (mask H' O) := fun b o h => by
  obtain ⟨h1, h2⟩ := mask_some h
  rw [mask_out h1]
  exact e b o h2
theorem mask_no (H : Hp) : mask H (fun _ => False) = H := funext fun b => mask_out (fun h => h)
theorem mask_tsame {H : Hp} {O : Addr → Prop} (h : ∀ a, O a → ∃ xs : List V, H a = some (.lst xs)) : TSame H (mask H O) := fun a xs q => by
  have n : ¬ O a := fun z => by
    obtain ⟨ys, e⟩ := h a z
    rcases q with q | ⟨o, q⟩
    · rw [e] at q; cases q
    · rw [e] at q; cases q
  rcases q with q | ⟨o, q⟩
  · exact .inl (by rw [mask_out n]; exact q)
  · exact .inr ⟨o, by rw [mask_out n]; exact q⟩
theorem rw_mask {T : Tab} {K : PySem.W.Frag} {mg : Str → Option Value} {H : Hp} {O : Addr → Prop} (h : ∀ a, O a → ∃ xs, H a = some (.lst xs)) {v : V} : ∀ {w : W}, w.im = true → Rw T K mg H v w → Rw T K mg (mask H O) v w
  | .d x, i, q => dp_tmono (mask_tsame h) x v i q
  | .o c fs, i, ⟨a, C, dx, vs, e1, e2, e3, e4, e5⟩ => by
    refine ⟨a, C, dx, vs, e1, e2, ?_, e4, dpa_tmono (mask_tsame h) fs vs i e5⟩
    rw [mask_out (fun z => by
      obtain ⟨ys, e⟩ := h a z
      rw [e] at e3; cases e3)]
    exact e3

theorem sqt_mono {K : PySem.W.Frag} {H H' : Hp} {a : Addr} {xs : List V} (s : Same H H') (h : SqT K H a xs) : SqT K H' a xs := by
  rcases h with (h | ⟨o, h⟩) | h
  · exact .inl (.inl (s _ _ h))
  · exact .inl (.inr ⟨o, s _ _ h⟩)
  · exact .inr h
/-! ### the state of a body -/
def MonoP (g : Hp → Prop) : Prop := ∀ H H', Same H H' → g H → g H'
structure RSO (T : Tab) (K : PySem.W.Frag) (mg : Str → Option Value) (gh : Hp → Prop) (He : Hp) (O : Addr → Prop) (H : Hp) (s : L2.St) (r : Rho) : Prop where
  len : s.length = r.length
  ex : Same He H
  ow : ∀ a, O a → He a = none ∧ ∃ xs, H a = some (.lst xs)
  wv : ∀ (i : Nat) (x : W), r[i]? = some (some (.w x)) → ∃ v, s[i]? = some (some v) ∧ Rw T K mg (mask H O) v x
  ov : ∀ (i : Nat) (xs : List PyData), r[i]? = some (some (.own xs)) → ∃ (a : Addr) (vs : List V), s[i]? = some (some (.ref a)) ∧ O a ∧ H a = some (.lst vs) ∧ DpAll K (mask H O) vs xs
  inj : ∀ (i j : Nat) (xs ys : List PyData) (a : Addr), r[i]? = some (some (.own xs)) → r[j]? = some (some (.own ys)) → s[i]? = some (some (.ref a)) → s[j]? = some (some (.ref a)) → i = j
  gm : MonoP gh
  gp : gh (mask H O)
def RS (T : Tab) (K : PySem.W.Frag) (mg : Str → Option Value) (gh : Hp → Prop) (He : Hp) (H : Hp) (s : L2.St) (r : Rho) : Prop := ∃ O, RSO T K mg gh He O H s r
section
variable {T : Tab} {K : PySem.W.Frag} {mg : Str → Option Value} {gh gi : Hp → Prop} {He H H' : Hp} {s : L2.St} {r : Rho} {O : Addr → Prop}
theorem RSO.rv (h : RSO T K mg gh He O H s r) : RV T K mg H s r := fun i x e => by
  unfold rd at e
  split at e
  · rename_i y q
    cases e
    obtain ⟨v, h1, h2⟩ := h.wv i _ q
    exact ⟨v, h1, rw_mono mask_sub h2⟩
  · rename_i xs q
    cases e
    obtain ⟨a, vs, h1, h2, h3, h4⟩ := h.ov i _ q
    exact ⟨_, h1, Dp.lst (SqL.of h3) (dpa_mono mask_sub _ _ h4)⟩
  · cases e
theorem RS.rv (h : RS T K mg gh He H s r) : RV T K mg H s r := let ⟨_, h⟩ := h; h.rv
theorem RS.ex (h : RS T K mg gh He H s r) : Same He H := let ⟨_, h⟩ := h; h.ex
theorem RSO.step (h : RSO T K mg gh He O H s r) (e : Same H H') : RSO T K mg gh He O H' s r where
  len := h.len
  ex := h.ex.trans e
  ow := fun a q => let ⟨h1, xs, h2⟩ := h.ow a q; ⟨h1, xs, e _ _ h2⟩
  wv := fun i x q => let ⟨v, h1, h2⟩ := h.wv i x q; ⟨v, h1, rw_mono (mask_mono e) h2⟩
  ov := fun i xs q => let ⟨a, vs, h1, h2, h3, h4⟩ := h.ov i xs q; ⟨a, vs, h1, h2, e _ _ h3, dpa_mono (mask_mono e) _ _ h4⟩
  inj := h.inj
  gm := h.gm
  gp := h.gm _ _ (mask_mono e) h.gp
theorem RS.step (h : RS T K mg gh He H s r) (e : Same H H') : RS T K mg gh He H' s r := let ⟨O, h⟩ := h; ⟨O, h.step e⟩
/-- no list of its own is in it -/
def noOwn (r : Rho) : Bool := r.all fun o => match o with
  | some (.own _) => false
  | _ => true
theorem noOwn_no {r : Rho} (h : noOwn r = true) {i : Nat} {xs : List PyData} : r[i]? ≠ some (some (.own xs)) := fun e => by
  have hm : some (Sl.own xs) ∈ r := List.mem_of_getElem? e
  have := List.all_eq_true.mp h _ hm
  simp at this
theorem RS.free (h : RS T K mg gh He H s r) (n : noOwn r = true) : RSO T K mg gh He (fun _ => False) H s r := by
  obtain ⟨O, h⟩ := h
  refine ⟨h.len, h.ex, fun a z => z.elim, fun i x q => ?_, fun i xs q => absurd q (noOwn_no n), fun i j xs ys a q => absurd q (noOwn_no n), h.gm, ?_⟩
  · obtain ⟨v, h1, h2⟩ := h.wv i x q
    exact ⟨v, h1, by rw [mask_no]; exact rw_mono mask_sub h2⟩
  · rw [mask_no]
    exact h.gm _ _ mask_sub h.gp
theorem get_set {α : Type} {l : List α} {i j : Nat} {x y : α} (h : (l.set i x)[j]? = some y) : (j = i ∧ i < l.length ∧ y = x) ∨ (j ≠ i ∧ l[j]? = some y) := by
  by_cases e : j = i
  · subst e
    by_cases hl : j < l.length
    · rw [List.getElem?_set_self hl] at h
      exact .inl ⟨rfl, hl, (Option.some.inj h).symm⟩
    · have : (l.set j x)[j]? = none := by rw [List.getElem?_eq_none_iff]; simp; omega
      rw [this] at h; cases h
  · rw [List.getElem?_set_ne (Ne.symm e)] at h
    exact .inr ⟨e, h⟩
/-- a slot filled with what is known under the mask -/
theorem RSO.set (h : RSO T K mg gh He O H s r) {v : V} {w : W} (q : Rw T K mg (mask H O) v w) (i : Nat) : RSO T K mg gh He O H (s.set i (some v)) (r.set i (some (.w w))) where
  len := by rw [List.length_set, List.length_set]; exact h.len
  ex := h.ex
  ow := h.ow
  wv := fun j x e => by
    rcases get_set e with ⟨rfl, hl, e1⟩ | ⟨hn, e1⟩
    · cases e1
      exact ⟨v, List.getElem?_set_self (by rw [h.len]; exact hl), q⟩
    · rw [List.getElem?_set_ne (Ne.symm hn)]
      exact h.wv j x e1
  ov := fun j xs e => by
    rcases get_set e with ⟨rfl, hl, e1⟩ | ⟨hn, e1⟩
    · cases e1
    · rw [List.getElem?_set_ne (Ne.symm hn)]
      exact h.ov j xs e1
  inj := fun j k xs ys a e1 e2 e3 e4 => by
    rcases get_set e1 with ⟨rfl, hl, e5⟩ | ⟨hn, e5⟩
    · cases e5
    · rcases get_set e2 with ⟨rfl, hl2, e6⟩ | ⟨hn2, e6⟩
      · cases e6
      · rw [List.getElem?_set_ne (Ne.symm hn)] at e3
        rw [List.getElem?_set_ne (Ne.symm hn2)] at e4
        exact h.inj j k xs ys a e5 e6 e3 e4
  gm := h.gm
  gp := h.gp
theorem RS.setv (h : RS T K mg gh He H s r) {v : V} {w : W} (c : (w.im || noOwn r) = true) (q : Rw T K mg H v w) (i : Nat) : RS T K mg gh He H (s.set i (some v)) (r.set i (some (.w w))) := by
  by_cases ci : w.im = true
  · obtain ⟨O, h⟩ := h
    exact ⟨O, h.set (rw_mask (fun a z => (h.ow a z).2) ci q) i⟩
  · have n : noOwn r = true := by
      rcases Bool.or_eq_true_iff.mp c with z | z
      · exact absurd z ci
      · exact z
    exact ⟨_, (h.free n).set (by rw [mask_no]; exact q) i⟩
/-- a new list, one's own from now on -/
theorem RS.seto (h : RS T K mg gh He H s r) {p : Addr} {vs : List V} {xs : List PyData} (hp : H p = none) (e : Same H H') (h' : H' p = some (.lst vs)) (hd : DpAll K H' vs xs) (hi : imms xs = true) (i : Nat) :
    RS T K mg gh He H' (s.set i (some (.ref p))) (r.set i (some (.own xs))) := by
  obtain ⟨O, h⟩ := h
  have sub : Same (mask H O) (mask H' (fun a => O a ∨ a = p)) := fun b o q => by
    obtain ⟨q1, q2⟩ := mask_some q
    rw [mask_out (fun z => z.elim q1 (fun z => by rw [z, hp] at q2; cases q2))]
    exact e b o q2
  have ow' : ∀ a, (O a ∨ a = p) → He a = none ∧ ∃ xs, H' a = some (.lst xs) := fun a z => by
    rcases z with z | rfl
    · obtain ⟨h1, xs, h2⟩ := h.ow a z
      exact ⟨h1, xs, e _ _ h2⟩
    · exact ⟨h.ex.free hp, vs, h'⟩
  refine ⟨fun a => O a ∨ a = p, ⟨by rw [List.length_set, List.length_set]; exact h.len, h.ex.trans e, ow', fun j x q => ?_, fun j ys q => ?_, fun j k ys zs a e1 e2 e3 e4 => ?_, h.gm, h.gm _ _ sub h.gp⟩⟩
  · rcases get_set q with ⟨rfl, hl, e1⟩ | ⟨hn, e1⟩
    · cases e1
    · rw [List.getElem?_set_ne (Ne.symm hn)]
      obtain ⟨v, h1, h2⟩ := h.wv j x e1
      exact ⟨v, h1, rw_mono sub h2⟩
  · rcases get_set q with ⟨rfl, hl, e1⟩ | ⟨hn, e1⟩
    · cases e1
      exact ⟨p, vs, List.getElem?_set_self (by rw [h.len]; exact hl), .inr rfl, h', dpa_tmono (mask_tsame fun a z => (ow' a z).2) _ _ hi hd⟩
    · rw [List.getElem?_set_ne (Ne.symm hn)]
      obtain ⟨a, ws, h1, h2, h3, h4⟩ := h.ov j ys e1
      exact ⟨a, ws, h1, .inl h2, e _ _ h3, dpa_mono sub _ _ h4⟩
  · have neo : ∀ (m : Nat) (zs : List PyData), r[m]? = some (some (.own zs)) → s[m]? ≠ some (some (.ref p)) := fun m zs q1 q2 => by
      obtain ⟨a, ws, h1, h2, h3, h4⟩ := h.ov m zs q1
      rw [h1] at q2
      cases q2
      rw [hp] at h3; cases h3
    rcases get_set e1 with ⟨rfl, hl, e5⟩ | ⟨hn, e5⟩
    · rcases get_set e2 with ⟨rfl, hl2, e6⟩ | ⟨hn2, e6⟩
      · rfl
      · rw [List.getElem?_set_self (by rw [h.len]; exact hl)] at e3
        cases e3
        rw [List.getElem?_set_ne (Ne.symm hn2)] at e4
        exact absurd e4 (neo _ _ e6)
    · rw [List.getElem?_set_ne (Ne.symm hn)] at e3
      rcases get_set e2 with ⟨rfl, hl2, e6⟩ | ⟨hn2, e6⟩
      · rw [List.getElem?_set_self (by rw [h.len]; exact hl2)] at e4
        cases e4
        exact absurd e3 (neo _ _ e5)
      · rw [List.getElem?_set_ne (Ne.symm hn2)] at e4
        exact h.inj j k ys zs a e5 e6 e3 e4
/-- a new list, as data -/
theorem RS.setl (h : RS T K mg gh He H s r) {p : Addr} {vs : List V} {xs : List PyData} (hp : H p = none) (e : Same H H') (h' : H' p = some (.lst vs)) (hd : DpAll K H' vs xs) (hi : (imms xs || noOwn r) = true) (i : Nat) :
    RS T K mg gh He H' (s.set i (some (.ref p))) (r.set i (some (.w (.d (.list xs))))) := by
  by_cases ci : imms xs = true
  · obtain ⟨O, h⟩ := h
    have h2 := h.step e
    have np : ¬ O p := fun z => by
      obtain ⟨_, ys, q⟩ := h.ow p z
      rw [hp] at q; cases q
    exact ⟨O, h2.set (w := .d (.list xs)) (Dp.lst (SqL.of (by rw [mask_out np]; exact h')) (dpa_tmono (mask_tsame fun a z => (h2.ow a z).2) _ _ ci hd)) i⟩
  · have n : noOwn r = true := by
      rcases Bool.or_eq_true_iff.mp hi with z | z
      · exact absurd z ci
      · exact z
    exact (h.step e).setv (w := .d (.list xs)) (by rw [n, Bool.or_true]) (Dp.lst (SqL.of h') hd) i
/-- an own list changed -/
theorem RSO.mut (h : RSO T K mg gh He O H s r) {i : Nat} {xs ys : List PyData} {a : Addr} {vs : List V} (hi : r[i]? = some (some (.own xs))) (hs : s[i]? = some (some (.ref a))) (hO : O a) (hd : DpAll K (mask H O) vs ys) :
    RSO T K mg gh He O (upd H a (.lst vs)) s (r.set i (some (.own ys))) := by
  have em : mask (upd H a (.lst vs)) O = mask H O := funext fun b => by
    by_cases q : O b
    · rw [mask_in q, mask_in q]
    · rw [mask_out q, mask_out q, upd_ne (fun z => q (by rw [z]; exact hO))]
  have hl : i < r.length := by
    rcases Nat.lt_or_ge i r.length with z | z
    · exact z
    · rw [List.getElem?_eq_none_iff.mpr z] at hi; cases hi
  refine ⟨by rw [List.length_set]; exact h.len, fun b o q => ?_, fun b q => ?_, fun j x q => ?_, fun j zs q => ?_, fun j k zs ws b e1 e2 e3 e4 => ?_, h.gm, by rw [em]; exact h.gp⟩
  · have := h.ex b o q
    rw [upd_ne (fun z => by
      rw [z] at q
      rw [(h.ow a hO).1] at q; cases q)]
    exact this
  · obtain ⟨h1, zs, h2⟩ := h.ow b q
    by_cases z : b = a
    · subst z; exact ⟨h1, vs, upd_same⟩
    · exact ⟨h1, zs, by rw [upd_ne z]; exact h2⟩
  · rw [em]
    rcases get_set q with ⟨rfl, hl, e1⟩ | ⟨hn, e1⟩
    · cases e1
    · exact h.wv j x e1
  · rw [em]
    rcases get_set q with ⟨rfl, hl, e1⟩ | ⟨hn, e1⟩
    · cases e1
      exact ⟨a, vs, hs, hO, upd_same, hd⟩
    · obtain ⟨b, ws, h1, h2, h3, h4⟩ := h.ov j zs e1
      refine ⟨b, ws, h1, h2, ?_, h4⟩
      rw [upd_ne (fun z => hn (by rw [z] at h1; exact h.inj j i zs xs a e1 hi h1 hs))]
      exact h3
  · have back : ∀ (m : Nat) (us : List PyData), (r.set i (some (.own ys)))[m]? = some (some (.own us)) → ∃ us' : List PyData, r[m]? = some (some (.own us')) := fun m us q => by
      rcases get_set q with ⟨rfl, hl, e1⟩ | ⟨hn, e1⟩
      · exact ⟨xs, hi⟩
      · exact ⟨us, e1⟩
    obtain ⟨z1, q1⟩ := back j zs e1
    obtain ⟨z2, q2⟩ := back k ws e2
    exact h.inj j k z1 z2 b q1 q2 e3 e4
theorem RS.ghost (h : RSO T K mg gh He O H s r) (hm : MonoP gi) (hg : gi (mask H O)) : RS T K mg (fun M => gh M ∧ gi M) He H s r :=
  ⟨O, h.len, h.ex, h.ow, h.wv, h.ov, h.inj, fun A B e q => ⟨h.gm A B e q.1, hm A B e q.2⟩, h.gp, hg⟩
theorem RS.unghost (h : RS T K mg (fun M => gh M ∧ gi M) He H s r) (hm : MonoP gh) : RS T K mg gh He H s r := let ⟨O, h⟩ := h
  ⟨O, h.len, h.ex, h.ow, h.wv, h.ov, h.inj, hm, h.gp.1⟩
theorem RS.gm (h : RS T K mg gh He H s r) : MonoP gh := let ⟨_, h⟩ := h; h.gm
end

/-! ### statements -/
inductive Out where
  | nx (r : Rho)
  | rt (z : Res)
  | bk (r : Rho)
  | ct (r : Rho)
abbrev CS := Rho → Option Out
def goal (T : Tab) (X : Cx) (gh : Hp → Prop) (He : Hp) : Out → Ends → Prop
  | .nx r, D => ∀ s H, RS T X.K X.mg gh He H s r → D.nx s H
  | .bk r, D => ∀ s H, RS T X.K X.mg gh He H s r → D.bk s H
  | .ct r, D => ∀ s H, RS T X.K X.mg gh He H s r → D.ct s H
  | .rt (.w x), D => ∀ v H, Same He H → Rw T X.K X.mg H v x → D.rt v H
  | .rt (.fl xs), D => ∀ p vs H, He p = none → Same He H → H p = some (.lst vs) → DpAll X.K H vs xs → D.rt (.ref p) H
def tS (T : Tab) (X : Cx) (r : Rho) (o : Out) : TS := fun D s H => ∃ gh He, RS T X.K X.mg gh He H s r ∧ goal T X gh He o D
def OkS (c : C0) (st : Stmt) (g : CS) : Prop := ∀ X, Gd c X → X.xe = (fun _ _ => False) → ∀ r o, g r = some o → PS X st (tS c.T X r o)
def OkSs (c : C0) (sts : List Stmt) (g : CS) : Prop := ∀ X, Gd c X → X.xe = (fun _ _ => False) → ∀ r o, g r = some o → PSs X sts (tS c.T X r o)
/-- whatever it comes to -/
def tU (T : Tab) (X : Cx) (g : CS) : TS := fun D s H => ∃ r o, g r = some o ∧ tS T X r o D s H
theorem okU {c : C0} {sts : List Stmt} {g : CS} (h : OkSs c sts g) {X : Cx} (gd : Gd c X) (hx : X.xe = (fun _ _ => False)) : PSs X sts (tU c.T X g) := ⟨fun pins s z H D I q => by
  obtain ⟨r, o, e, q⟩ := q
  exact (h X gd hx r o e).run pins s z H D I q⟩
def sNil : CS := fun r => some (.nx r)
def sSeq (g h : CS) : CS := fun r => match g r with
  | some (.nx r') => h r'
  | o => o
def sNever : CS := fun _ => none
section
variable {c : C0} {pos : Pos} {st : Stmt} {sts : List Stmt} {g h : CS} {f fa fb : Rho → Option W} {e a b : Expr} {i j : Nat} {x y : Str} {px py : Pos}
theorem okSs_nil : OkSs c [] sNil := fun X gd hx r o q => by
  cases q
  exact pss_imp pss_nil fun D s H ⟨gh, He, h1, h2⟩ => h2 s H h1
theorem okSs_cons (h1 : OkS c st g) (h2 : OkSs c sts h) : OkSs c (st :: sts) (sSeq g h) := fun X gd hx r o q => by
  unfold sSeq at q
  split at q
  · rename_i r' e1
    exact pss_imp (pss_cons (h1 X gd hx r _ e1) (h2 X gd hx r' o q)) fun D s H ⟨gh, He, q1, q2⟩ => ⟨gh, He, q1, fun s' H' q3 => ⟨gh, He, q3, q2⟩⟩
  · rename_i hne
    refine pss_imp (pss_cons (h1 X gd hx r o q) pss_never) fun D s H ⟨gh, He, q1, q2⟩ => ⟨gh, He, q1, ?_⟩
    cases o with
    | nx r' => exact absurd q (hne r')
    | rt z => cases z <;> exact q2
    | bk r' => exact q2
    | ct r' => exact q2
theorem okSs_one (h1 : OkS c st g) : OkSs c [st] g := fun X gd hx r o q => pss_one (h1 X gd hx r o q)
theorem okS_never : OkS c st sNever := fun X gd hx r o q => by cases q
theorem okS_pass : OkS c (.Pass pos) sNil := fun X gd hx r o q => by
  cases q
  exact ps_imp ps_pass fun D s H ⟨gh, He, h1, h2⟩ => h2 s H h1
def sBreak : CS := fun r => some (.bk r)
def sCont : CS := fun r => some (.ct r)
theorem okS_break : OkS c (.Break pos) sBreak := fun X gd hx r o q => by
  cases q
  exact ps_imp ps_break fun D s H ⟨gh, He, h1, h2⟩ => h2 s H h1
theorem okS_continue : OkS c (.Continue pos) sCont := fun X gd hx r o q => by
  cases q
  exact ps_imp ps_continue fun D s H ⟨gh, He, h1, h2⟩ => h2 s H h1
def sIf (q : Rho → Option Bool) (g h : CS) : CS := fun r => match q r with
  | some true => g r
  | some false => h r
  | none => none
theorem okS_if {q : Rho → Option Bool} {sa sb : List Stmt} (hq : OkT c e q) (hg : OkSs c sa g) (hh : OkSs c sb h) : OkS c (.If e sa sb pos) (sIf q g h) := fun X gd hx r o k => by
  unfold sIf at k
  split at k
  · rename_i e1
    exact ps_imp (ps_if (hq X gd r true e1) (hg X gd hx r o k) pss_never) fun D s H ⟨gh, He, q1, q2⟩ => ⟨q1.rv, fun H1 s1 => iteT ⟨gh, He, q1.step s1, q2⟩⟩
  · rename_i e1
    exact ps_imp (ps_if (hq X gd r false e1) pss_never (hh X gd hx r o k)) fun D s H ⟨gh, He, q1, q2⟩ => ⟨q1.rv, fun H1 s1 => iteF ⟨gh, He, q1.step s1, q2⟩⟩
  · cases k
def sRet (f : Rho → Option W) : CS := fun r => match f r with
  | some w => some (.rt (.w w))
  | none => none
theorem okS_ret (he : OkE c e f) : OkS c (.Return (some e) pos) (sRet f) := fun X gd hx r o k => by
  unfold sRet at k
  split at k
  · rename_i w e1
    cases k
    exact ps_imp (ps_ret (he X gd r w e1)) fun D s H ⟨gh, He, q1, q2⟩ => ⟨q1.rv, fun v H1 s1 hv => q2 v H1 (q1.ex.trans s1) hv⟩
  · cases k
def sRetL (f : Rho → Option (List PyData)) : CS := fun r => match f r with
  | some w => some (.rt (.fl w))
  | none => none
theorem okS_retL {f : Rho → Option (List PyData)} (he : OkL c e f) : OkS c (.Return (some e) pos) (sRetL f) := fun X gd hx r o k => by
  unfold sRetL at k
  split at k
  · rename_i w e1
    cases k
    exact ps_imp (ps_ret (he X gd r w e1)) fun D s H ⟨gh, He, q1, q2⟩ => ⟨q1.rv, fun p vs H1 hp s1 h1 hd => q2 p vs H1 (q1.ex.free hp) (q1.ex.trans s1) h1 hd⟩
  · cases k
/-- return xs, xs one's own list -/
def sRetO (i : Nat) : CS := fun r => match r[i]? with
  | some (some (.own xs)) => some (.rt (.fl xs))
  | _ => none
theorem okS_retO (i : Nat) (hN : c.N[i]? = some x) (hv : Vis c.sc x) (hd : (x == ("__debug__" : Str)) = false := by decide) (hcd : (x == ("__classdict__" : Str)) = false := by decide) : OkS c (.Return (some (.Name x px)) pos) (sRetO i) := fun X gd hx r o k => by
  unfold sRetO at k
  split at k
  · rename_i xs e1
    cases k
    refine ps_imp (ps_ret (pe_var (i := i) (by rw [gd.hN]; exact hN) (by rw [gd.hsc]; exact hv) hd hcd)) fun D s H ⟨gh, He, ⟨O, q1⟩, q2⟩ => ?_
    obtain ⟨a, vs, h1, h2, h3, h4⟩ := q1.ov i xs e1
    exact ⟨_, h1, q2 a vs H (q1.ow a h2).1 q1.ex h3 (dpa_mono mask_sub _ _ h4)⟩
  · cases k
def sAsg (i : Nat) (f : Rho → Option W) : CS := fun r => match f r with
  | some w => if w.im || noOwn r then some (.nx (r.set i (some (.w w)))) else none
  | none => none
theorem okS_asg (i : Nat) (hN : c.N[i]? = some x) (hl : Loc c.sc x) (he : OkE c e f) (hs : ∀ env l, swapsWith e (some (.Name x px)) l env = pure false := by intro _ _; rfl) (hf : c.sc.names.lookup x = some .local := by rfl) : OkS c (.Assign [.Name x px] e pos) (sAsg i f) := fun X gd hx r o k => by
  unfold sAsg at k
  split at k
  · rename_i w e1
    split at k
    · rename_i hc
      cases k
      exact ps_imp (ps_set (i := i) (by rw [gd.hN]; exact gd.nd) (by rw [gd.hN]; exact hN) (by rw [gd.hsc]; exact hl) (he X gd r w e1) (hs _ _) (.inr (by rw [gd.hsc]; exact hf))) fun D s H ⟨gh, He, q1, q2⟩ => ⟨q1.rv, fun v H1 s1 hv => q2 _ H1 ((q1.step s1).setv hc hv i)⟩
    · cases k
  · cases k
def sAsgL (i : Nat) (f : Rho → Option (List PyData)) : CS := fun r => match f r with
  | some xs => if imms xs || noOwn r then some (.nx (r.set i (some (.w (.d (.list xs)))))) else none
  | none => none
def sAsgO (i : Nat) (f : Rho → Option (List PyData)) : CS := fun r => match f r with
  | some xs => if imms xs then some (.nx (r.set i (some (.own xs)))) else none
  | none => none
theorem okS_asgL {f : Rho → Option (List PyData)} (i : Nat) (hN : c.N[i]? = some x) (hl : Loc c.sc x) (he : OkL c e f) (hs : ∀ env l, swapsWith e (some (.Name x px)) l env = pure false := by intro _ _; rfl) (hf : c.sc.names.lookup x = some .local := by rfl) : OkS c (.Assign [.Name x px] e pos) (sAsgL i f) := fun X gd hx r o k => by
  unfold sAsgL at k
  split at k
  · rename_i w e1
    split at k
    · rename_i hc
      cases k
      exact ps_imp (ps_set (i := i) (by rw [gd.hN]; exact gd.nd) (by rw [gd.hN]; exact hN) (by rw [gd.hsc]; exact hl) (he X gd r w e1) (hs _ _) (.inr (by rw [gd.hsc]; exact hf))) fun D s H ⟨gh, He, q1, q2⟩ => ⟨q1.rv, fun p vs H1 hp s1 h1 hd => q2 _ H1 (q1.setl hp s1 h1 hd hc i)⟩
    · cases k
  · cases k
theorem okS_asgO {f : Rho → Option (List PyData)} (i : Nat) (hN : c.N[i]? = some x) (hl : Loc c.sc x) (he : OkL c e f) (hs : ∀ env l, swapsWith e (some (.Name x px)) l env = pure false := by intro _ _; rfl) (hf : c.sc.names.lookup x = some .local := by rfl) : OkS c (.Assign [.Name x px] e pos) (sAsgO i f) := fun X gd hx r o k => by
  unfold sAsgO at k
  split at k
  · rename_i w e1
    split at k
    · rename_i hc
      cases k
      exact ps_imp (ps_set (i := i) (by rw [gd.hN]; exact gd.nd) (by rw [gd.hN]; exact hN) (by rw [gd.hsc]; exact hl) (he X gd r w e1) (hs _ _) (.inr (by rw [gd.hsc]; exact hf))) fun D s H ⟨gh, He, q1, q2⟩ => ⟨q1.rv, fun p vs H1 hp s1 h1 hd => q2 _ H1 (q1.seto hp s1 h1 hd hc i)⟩
    · cases k
  · cases k
/-- x += e, ints -/
def sAug (i : Nat) (g : Int → Int → Int) (f : Rho → Option W) : CS := fun r => match rd r i with
  | some (.d (.int m)) => match f r with
    | some (.d (.int n)) => some (.nx (r.set i (some (.w (.d (.int (g m n)))))))
    | _ => none
  | _ => none
theorem okS_aug {op : Operator} {gI : Int → Int → Int} (hop : ∀ X : Cx, PIp X op (ipI gI)) (i : Nat) (hN : c.N[i]? = some x) (hl : Loc c.sc x) (he : OkE c e f) (hf : c.sc.names.lookup x = some .local := by rfl) : OkS c (.AugAssign (.Name x px) op e pos) (sAug i gI f) := fun X gd hx r o k => by
  unfold sAug at k
  split at k
  · rename_i m e0
    split at k
    · rename_i n e1
      cases k
      refine ps_imp (ps_aug (i := i) (by rw [gd.hN]; exact gd.nd) (by rw [gd.hN]; exact hN) (by rw [gd.hsc]; exact hl) (he X gd r _ e1) (hop X) (.inr (by rw [gd.hsc]; exact hf))) fun D s H ⟨gh, He, q1, q2⟩ => ?_
      obtain ⟨v, h1, h2⟩ := q1.rv i _ e0
      refine ⟨v, h1, q1.rv, fun u H1 s1 hu => ?_⟩
      exact ⟨m, n, int_of h2, int_of hu, q2 _ H1 ((q1.step s1).setv (w := .d (.int (gI m n))) rfl (Dp.int _) i)⟩
    · cases k
  · cases k
theorem okS_augAdd (i : Nat) (hN : c.N[i]? = some x) (hl : Loc c.sc x) (he : OkE c e f) (hf : c.sc.names.lookup x = some .local := by rfl) : OkS c (.AugAssign (.Name x px) .Add e pos) (sAug i (fun m n => m + n) f) := okS_aug (fun X => ip_add) i hN hl he hf
/-- a, b = x, y -/
def sPar (i j : Nat) (fa fb : Rho → Option W) : CS := fun r => match fa r with
  | some v => match fb r with
    | some w => if (v.im && w.im) || noOwn r then some (.nx ((r.set i (some (.w v))).set j (some (.w w)))) else none
    | none => none
  | none => none
theorem noOwn_set {r : Rho} (h : noOwn r = true) (i : Nat) (w : W) : noOwn (r.set i (some (.w w))) = true := by
  unfold noOwn at h ⊢
  rw [List.all_eq_true] at h ⊢
  intro o ho
  rcases List.mem_or_eq_of_mem_set ho with q | q
  · exact h o q
  · subst q; rfl
theorem okS_par {k1 k2} {p1 p2 : Pos} (i j : Nat) (hN : c.N[i]? = some x) (hl : Loc c.sc x) (hN2 : c.N[j]? = some y) (hl2 : Loc c.sc y) (hij : i ≠ j) (ha : OkE c a fa) (hb : OkE c b fb)
    (hP : ∀ X, Gd c X → ∀ ta, PA X [a, b] ta → PS X (.Assign [.Tuple [.Name x px, .Name y py] k1 p1] (.Tuple [a, b] k2 p2) pos) (tPar i j ta))
    (hs : ∀ env, starEach [a, b] env = (false, eval a env) :: starEach [b] env := by intro _; rfl) (hs2 : ∀ env, starEach [b] env = [(false, eval b env)] := by intro _; rfl) :
    OkS c (.Assign [.Tuple [.Name x px, .Name y py] k1 p1] (.Tuple [a, b] k2 p2) pos) (sPar i j fa fb) := fun X gd hx r o k => by
  unfold sPar at k
  split at k
  · rename_i v e1
    split at k
    · rename_i w e2
      split at k
      · rename_i hc
        cases k
        refine ps_imp (hP X gd _ (pa_cons (ha X gd r v e1) (pa_cons (hb X gd r w e2) pa_nil (hs2 X.env)) (hs X.env))) fun D s H ⟨gh, He, q1, q2⟩ => ⟨q1.rv, fun v1 H1 s1 hv1 => ⟨rv_mono s1 q1.rv, fun v2 H2 s2 hv2 => ⟨v1, v2, rfl, q2 _ H2 ?_⟩⟩⟩
        have h3 := q1.step (s1.trans s2)
        have cv : (v.im || noOwn r) = true := by
          rcases Bool.or_eq_true_iff.mp hc with z | z
          · rw [(Bool.and_eq_true_iff.mp z).1]; rfl
          · rw [z, Bool.or_true]
        have cw : (w.im || noOwn (r.set i (some (.w v)))) = true := by
          rcases Bool.or_eq_true_iff.mp hc with z | z
          · rw [(Bool.and_eq_true_iff.mp z).2]; rfl
          · rw [noOwn_set z, Bool.or_true]
        exact (h3.setv cv (rw_mono s2 hv1) i).setv cw hv2 j
      · cases k
    · cases k
  · cases k
/-! ### while -/
def whl (q : Rho → Option Bool) (g : CS) : Nat → CS
  | 0, _ => none
  | n + 1, r => match q r with
    | some true => match g r with
      | some (.nx r') => whl q g n r'
      | some (.ct r') => whl q g n r'
      | some (.bk r') => some (.nx r')
      | some (.rt z) => some (.rt z)
      | none => none
    | some false => some (.nx r)
    | none => none
theorem okS_while {q : Rho → Option Bool} {body : List Stmt} (n : Nat) (hq : OkT c e q) (hg : OkSs c body g) : OkS c (.While e body [] pos) (whl q g n) := fun X gd hx r o k => by
  have hQ : PT X e (fun s H Q => ∃ r b, q r = some b ∧ tQ c.T X r b s H Q) := ⟨fun pins s z H Q I w => by
    obtain ⟨r, b, e1, w⟩ := w
    exact (hq X gd r b e1).run pins s z H Q I w⟩
  refine ps_imp (ps_while (by rw [hx]; exact PassesOwn.never) hQ (okU hg gd hx)) fun D s H ⟨gh, He, q1, q2⟩ => ?_
  refine ⟨fun m s H => ∃ r, RS c.T X.K X.mg gh He H s r ∧ whl q g m r = some o, ⟨n, r, q1, k⟩, fun m s H ⟨r, h1, h2⟩ => ?_⟩
  cases m with
  | zero => cases h2
  | succ m =>
    unfold whl at h2
    split at h2
    · rename_i e1
      refine ⟨r, true, e1, h1.rv, fun H1 s1 => iteT ⟨fun s' H' => ∃ r', RS c.T X.K X.mg gh He H' s' r' ∧ whl q g m r' = some o, fun s' H' ⟨r', q3, q4⟩ => ⟨m, Nat.lt_succ_self m, r', q3, q4⟩, ?_⟩⟩
      split at h2
      · rename_i r' e2
        exact ⟨r, _, e2, gh, He, h1.step s1, fun s' H' q3 => ⟨r', q3, h2⟩⟩
      · rename_i r' e2
        exact ⟨r, _, e2, gh, He, h1.step s1, fun s' H' q3 => ⟨r', q3, h2⟩⟩
      · rename_i r' e2
        cases h2
        exact ⟨r, _, e2, gh, He, h1.step s1, fun s' H' q3 => q2 s' H' q3⟩
      · rename_i z e2
        cases h2
        refine ⟨r, _, e2, gh, He, h1.step s1, ?_⟩
        cases z <;> exact q2
      · cases h2
    · rename_i e1
      cases h2
      exact ⟨r, false, e1, h1.rv, fun H1 s1 => iteF (q2 s H1 (h1.step s1))⟩
    · cases h2
/-! ### for -/
/-- what a walked thing does, by the data it gives -/
structure Wk (K : PySem.W.Frag) (J : It) (gi : Hp → Prop) (ds : List PyData) : Prop where
  go : ∀ i H O, gi (mask H O) → i < ds.length → J.go i H
  yl : ∀ i H O x H' d, (∀ a, O a → H a ≠ none) → gi (mask H O) → ds[i]? = some d → J.yld i H x H' → Same H H' ∧ Dp K (mask H' O) x d
  st : ∀ H O, gi (mask H O) → J.stop ds.length H
def OkIt (c : C0) (tg iter : Expr) (f : Rho → Option (List PyData)) : Prop := ∀ X, Gd c X → ∀ r ds, f r = some ds → ∃ wi, PI X tg iter wi ∧
  ∀ gh He s H, RS c.T X.K X.mg gh He H s r → ∀ R : It → Hp → Prop, (∀ J H' gi, MonoP gi → Same H H' → RS c.T X.K X.mg (fun M => gh M ∧ gi M) He H' s r → Wk X.K J gi ds → R J H') → wi s H R
def OkG (c : C0) (tg : Expr) (g : PyData → Rho → Option Rho) : Prop := ∀ X, Gd c X → ∃ t, PG X tg t ∧ ∀ d r r', g d r = some r' → ∀ gh He O H s x, RSO c.T X.K X.mg gh He O H s r → Dp X.K (mask H O) x d →
  ∀ Q : L2.St → Hp → Prop, (∀ s', RS c.T X.K X.mg gh He H s' r' → Q s' H) → t x s H Q
def gN (i : Nat) : PyData → Rho → Option Rho := fun d r => some (r.set i (some (.w (.d d))))
theorem okG_name (i : Nat) (hN : c.N[i]? = some x) (hl : Loc c.sc x) (hf : c.sc.names.lookup x = some .local := by rfl) : OkG c (.Name x px) (gN i) := fun X gd =>
  ⟨_, pg_name (i := i) (by rw [gd.hN]; exact gd.nd) (by rw [gd.hN]; exact hN) (by rw [gd.hsc]; exact hl) (.inr (by rw [gd.hsc]; exact hf)), fun d r r' e gh He O H s v h1 h2 Q k => by
    cases e
    exact k _ ⟨O, h1.set (w := .d d) h2 i⟩⟩
def gN2 (i j : Nat) : PyData → Rho → Option Rho := fun d r => match d with
  | .tuple [a, b] => some ((r.set i (some (.w (.d a)))).set j (some (.w (.d b))))
  | _ => none
theorem okG_two {k} {p1 : Pos} (i j : Nat) (hN : c.N[i]? = some x) (hl : Loc c.sc x) (hN2 : c.N[j]? = some y) (hl2 : Loc c.sc y) (hf : c.sc.names.lookup x = some .local := by rfl) (hf2 : c.sc.names.lookup y = some .local := by rfl) : OkG c (.Tuple [.Name x px, .Name y py] k p1) (gN2 i j) := fun X gd =>
  ⟨_, pg_tup gd.calm (pgs_cons (pg_name (i := i) (by rw [gd.hN]; exact gd.nd) (by rw [gd.hN]; exact hN) (by rw [gd.hsc]; exact hl) (.inr (by rw [gd.hsc]; exact hf)))
      (pgs_cons (pg_name (i := j) (by rw [gd.hN]; exact gd.nd) (by rw [gd.hN]; exact hN2) (by rw [gd.hsc]; exact hl2) (.inr (by rw [gd.hsc]; exact hf2))) pgs_nil)), fun d r r' e gh He O H s v h1 h2 Q kk => by
    unfold gN2 at e
    split at e
    · rename_i a b
      cases e
      cases h2 with
      | tup hs ha =>
        cases ha with
        | cons ha1 ha2 =>
          cases ha2 with
          | cons ha2 ha3 =>
            cases ha3
            exact ⟨_, _, rfl, sqt_mono mask_sub hs, rfl, _, _, rfl, _, _, rfl, rfl, kk _ ⟨O, (h1.set (w := .d a) ha1 i).set (w := .d b) ha2 j⟩⟩
    · cases e⟩
/-- the walk -/
def forW (g : PyData → Rho → Option Rho) (h : CS) : List PyData → CS
  | [], r => some (.nx r)
  | d :: ds, r => match g d r with
    | some r1 => match h r1 with
      | some (.nx r') => forW g h ds r'
      | some (.ct r') => forW g h ds r'
      | some (.bk r') => some (.nx r')
      | some (.rt z) => some (.rt z)
      | none => none
    | none => none
def sFor (g : PyData → Rho → Option Rho) (f : Rho → Option (List PyData)) (h : CS) : CS := fun r => match f r with
  | some ds => forW g h ds r
  | none => none
theorem okS_for {tg iter : Expr} {body : List Stmt} {gt : PyData → Rho → Option Rho} {f : Rho → Option (List PyData)} (hi : OkIt c tg iter f) (hg : OkG c tg gt) (hb : OkSs c body h) (hf : ∀ env x, foldedSetIterable iter env x = pure x := by intro _ _; rfl) :
    OkS c (.For tg iter body [] pos) (sFor gt f h) := fun X gd hx r o k => by
  unfold sFor at k
  split at k
  · rename_i ds e1
    obtain ⟨wi, pI, hI⟩ := hi X gd r ds e1
    obtain ⟨t, pG, hG⟩ := hg X gd
    refine ps_imp (ps_for (by rw [hx]; exact PassesOwn.never) gd.calm pI pG (okU hb gd hx) (hf X.env)) fun D s H ⟨gh, He, q1, q2⟩ => ?_
    refine hI gh He s H q1 _ fun J H' gi hm e' q3 wk => ?_
    refine ⟨fun i m s H => m = ds.length - i ∧ i ≤ ds.length ∧ ∃ r, RS c.T X.K X.mg (fun M => gh M ∧ gi M) He H s r ∧ forW gt h (ds.drop i) r = some o, ⟨ds.length, by simp, Nat.zero_le _, r, q3, k⟩, ?_⟩
    rintro i m s H ⟨rfl, hi, r, ⟨O, h1⟩, h2⟩
    by_cases hlt : i < ds.length
    · rw [List.drop_eq_getElem_cons hlt] at h2
      unfold forW at h2
      split at h2
      · rename_i r1 e2
        refine .inr ⟨wk.go i H O h1.gp.2 hlt, fun s' H' => ∃ r', RS c.T X.K X.mg (fun M => gh M ∧ gi M) He H' s' r' ∧ forW gt h (ds.drop (i + 1)) r' = some o, fun s' H' ⟨r', q4, q5⟩ => ⟨ds.length - (i + 1), by omega, rfl, hlt, r', q4, q5⟩, fun x H2 hy => ?_⟩
        obtain ⟨s2, hd⟩ := wk.yl i H O x H2 ds[i] (fun a z => by obtain ⟨_, xs, q⟩ := h1.ow a z; rw [q]; simp) h1.gp.2 (List.getElem?_eq_getElem hlt) hy
        refine hG _ _ _ e2 _ He O H2 s x (h1.step s2) hd _ fun s' q4 => ?_
        split at h2
        · rename_i r' e3
          exact ⟨r1, _, e3, _, He, q4, fun s3 H3 q5 => ⟨r', q5, h2⟩⟩
        · rename_i r' e3
          exact ⟨r1, _, e3, _, He, q4, fun s3 H3 q5 => ⟨r', q5, h2⟩⟩
        · rename_i r' e3
          cases h2
          exact ⟨r1, _, e3, _, He, q4, fun s3 H3 q5 => q2 s3 H3 (q5.unghost q1.gm)⟩
        · rename_i z e3
          cases h2
          refine ⟨r1, _, e3, _, He, q4, ?_⟩
          cases z <;> exact q2
        · cases h2
      · cases h2
    · have e : i = ds.length := by omega
      subst e
      rw [List.drop_length] at h2
      cases h2
      exact .inl ⟨wk.st H O h1.gp.2, q2 s H (RS.unghost ⟨O, h1⟩ q1.gm)⟩
  · cases k
/-! ### walked things -/
def itT (f : Rho → Option W) : Rho → Option (List PyData) := fun r => match f r with
  | some (.d (.tuple ds)) => if imms ds || noOwn r then some ds else none
  | _ => none
theorem okI_tup {tg : Expr} (he : OkE c e f) : OkIt c tg e (itT f) := fun X gd r ds k => by
  unfold itT at k
  split at k
  · rename_i ds' e1
    split at k
    · rename_i hc
      cases k
      refine ⟨_, pi_tup (he X gd r _ e1), fun gh He s H q1 R k => ⟨q1.rv, fun v H1 s1 hv => ?_⟩⟩
      cases hv with
      | tup hs ha =>
        rename_i a xs
        refine ⟨a, rfl, ⟨_, hs⟩, k (Itt X.K a) H1 (fun M => SqT X.K M a xs ∧ DpAll X.K M xs ds) (fun A B e q => ⟨sqt_mono e q.1, dpa_mono e _ _ q.2⟩) s1 ?_ ?_⟩
        · have h2 := q1.step s1
          by_cases ci : imms ds = true
          · obtain ⟨O, h2⟩ := h2
            have tm := mask_tsame fun a z => (h2.ow a z).2
            refine RS.ghost h2 (fun A B e q => ⟨sqt_mono e q.1, dpa_mono e _ _ q.2⟩) ⟨?_, dpa_tmono tm _ _ ci ha⟩
            rcases hs with h | h
            · exact .inl (tm _ _ h)
            · exact .inr h
          · have n : noOwn r = true := by
              rcases Bool.or_eq_true_iff.mp hc with z | z
              · exact absurd z ci
              · exact z
            exact RS.ghost (h2.free n) (fun A B e q => ⟨sqt_mono e q.1, dpa_mono e _ _ q.2⟩) (by rw [mask_no]; exact ⟨hs, ha⟩)
        · refine ⟨fun i H O g hi => ?_, fun i H O x H' d hO g hd hy => ?_, fun H O g => ?_⟩
          · have hi' : i < xs.length := by rw [dpa_len _ _ ha]; exact hi
            exact ⟨xs, xs[i], sqt_mono mask_sub g.1, List.getElem?_eq_getElem hi'⟩
          · obtain ⟨rfl, hy⟩ := hy
            refine ⟨Same.refl _, ?_⟩
            have e3 := hy xs (sqt_mono mask_sub g.1)
            obtain ⟨d', h3, h4⟩ := dpa_getV _ _ i x g.2 e3
            rw [hd] at h3
            cases h3
            exact h4
          · exact ⟨xs, sqt_mono mask_sub g.1, Nat.le_of_eq (dpa_len _ _ ha)⟩
    · cases k
  · cases k
/-- sign by sign -/
def chs (z : Str) : List PyData := z.cps.toList.map fun n => .str ⟨#[n]⟩
def itS (f : Rho → Option W) : Rho → Option (List PyData) := fun r => match f r with
  | some (.d (.str z)) => some (chs z)
  | _ => none
theorem trueMono : MonoP (fun _ => True) := fun _ _ _ _ => trivial
theorem RS.ghostT {T : Tab} {K : PySem.W.Frag} {mg : Str → Option Value} {gh : Hp → Prop} {He H : Hp} {s : L2.St} {r : Rho} (h : RS T K mg gh He H s r) : RS T K mg (fun M => gh M ∧ True) He H s r := let ⟨O, h⟩ := h; RS.ghost h trueMono trivial
theorem okI_str {tg : Expr} (he : OkE c e f) : OkIt c tg e (itS f) := fun X gd r ds k => by
  unfold itS at k
  split at k
  · rename_i z e1
    cases k
    refine ⟨_, pi_str (he X gd r _ e1), fun gh He s H q1 R k => ⟨q1.rv, fun v H1 s1 hv => ⟨z, str_of hv, k (Its z) H1 (fun _ => True) trueMono s1 (q1.step s1).ghostT ?_⟩⟩⟩
    refine ⟨fun i H O g hi => ?_, fun i H O x H' d hO g hd hy => ?_, fun H O g => ?_⟩
    · have hi' : i < z.cps.size := by simpa [chs] using hi
      exact hi'
    · obtain ⟨rfl, n, e2, rfl⟩ := hy
      refine ⟨Same.refl _, ?_⟩
      unfold chs at hd
      rw [List.getElem?_map] at hd
      have e3 : z.cps.toList[i]? = some n := by rw [Array.getElem?_toList]; exact e2
      rw [e3] at hd
      cases hd
      exact Dp.str _
    · show z.cps.size ≤ (chs z).length
      simp [chs]
  · cases k
/-- lo, lo + c, .. -/
def rngD (lo c : Int) (n : Nat) : List PyData := (List.range n).map fun i => .int (lo + (i : Nat) * c)
def itR1 (fa : Rho → Option W) : Rho → Option (List PyData) := fun r => match fa r with
  | some (.d (.int j)) => if -(2 ^ 62) ≤ j ∧ j < 2 ^ 62 then some (rngD 0 1 j.toNat) else none
  | _ => none
def itR2 (fa fb : Rho → Option W) : Rho → Option (List PyData) := fun r => match fa r with
  | some (.d (.int i)) => match fb r with
    | some (.d (.int j)) => if -(2 ^ 62) ≤ i ∧ i < 2 ^ 62 ∧ -(2 ^ 62) ≤ j ∧ j < 2 ^ 62 then some (rngD i 1 (j - i).toNat) else none
    | _ => none
  | _ => none
def itR3 (fa fb fc : Rho → Option W) : Rho → Option (List PyData) := fun r => match fa r with
  | some (.d (.int i)) => match fb r with
    | some (.d (.int j)) => match fc r with
      | some (.d (.int c)) => if c ≠ 0 ∧ c.natAbs < 1073741824 ∧ Builtin.Range.small i j c = true ∧ 0 ≤ Builtin.Range.rangeSize i j c then some (rngD i c (Builtin.Range.rangeSize i j c).toNat) else none
      | _ => none
    | _ => none
  | _ => none
theorem wk_rng {K : PySem.W.Frag} {J : It} {lo c : Int} {n : Nat} (h1 : ∀ i H, i < n → J.go i H) (h2 : ∀ i H x H', J.yld i H x H' → H' = H ∧ x = .int (lo + (i : Nat) * c)) (h3 : ∀ H, J.stop n H) : Wk K J (fun _ => True) (rngD lo c n) := by
  refine ⟨fun i H O g hi => h1 i H (by simpa [rngD] using hi), fun i H O x H' d hO g hd hy => ?_, fun H O g => ?_⟩
  · obtain ⟨rfl, rfl⟩ := h2 i H x H' hy
    refine ⟨Same.refl _, ?_⟩
    unfold rngD at hd
    rw [List.getElem?_map] at hd
    cases e : (List.range n)[i]? with
    | none => rw [e] at hd; cases hd
    | some m =>
      rw [e] at hd
      have : m = i := by
        obtain ⟨h, e2⟩ := List.getElem?_eq_some_iff.mp e
        simpa using e2.symm
      subst this
      cases hd
      exact Dp.int _
  · have : (rngD lo c n).length = n := by simp [rngD]
    rw [this]
    exact h3 H
theorem okI_rng1 {tg : Expr} {p : Pos} (hb : ("range" : Str) ∈ c.T.bl) (hk : c.sc.names.lookup ("range" : Str) = some .globalImplicit) (ha : OkE c a fa) (hs : ∀ env, starEach [a] env = [(false, eval a env)] := by intro _; rfl) : OkIt c tg (.Call (.Name "range" p) [a] [] pos) (itR1 fa) := fun X gd r ds k => by
  unfold itR1 at k
  split at k
  · rename_i j e1
    split at k
    · rename_i hc
      cases k
      refine ⟨_, pi_range1 ((gd.kind _).trans hk) (gd.tab.bl _ hb) (pa_cons (ha X gd r _ e1) pa_nil (hs X.env)) (hs X.env), fun gh He s H q1 R kk => ⟨q1.rv, fun v H1 s1 hv => ?_⟩⟩
      obtain rfl := int_of hv
      exact ⟨j, rfl, hc.1, hc.2, kk _ H1 (fun _ => True) trueMono s1 (q1.step s1).ghostT (wk_rng (fun i H hi => hi) (fun i H x H' hy => ⟨hy.1, by rw [hy.2]; simp⟩) (fun H => Nat.le_refl _))⟩
    · cases k
  · cases k
theorem okI_rng2 {tg : Expr} {p : Pos} (hb : ("range" : Str) ∈ c.T.bl) (hk : c.sc.names.lookup ("range" : Str) = some .globalImplicit) (ha : OkE c a fa) (hb' : OkE c b fb) (hs : ∀ env, starEach [a, b] env = [(false, eval a env), (false, eval b env)] := by intro _; rfl) (hs2 : ∀ env, starEach [b] env = [(false, eval b env)] := by intro _; rfl) : OkIt c tg (.Call (.Name "range" p) [a, b] [] pos) (itR2 fa fb) := fun X gd r ds k => by
  unfold itR2 at k
  split at k
  · rename_i i e1
    split at k
    · rename_i j e2
      split at k
      · rename_i hc
        cases k
        have h1 : starEach [a, b] X.env = (false, eval a X.env) :: starEach [b] X.env := by rw [hs, hs2]
        refine ⟨_, pi_range2 ((gd.kind _).trans hk) (gd.tab.bl _ hb) (pa_cons (ha X gd r _ e1) (pa_cons (hb' X gd r _ e2) pa_nil (hs2 X.env)) h1) (hs X.env) (hs2 X.env), fun gh He s H q1 R kk => ⟨q1.rv, fun v H1 s1 hv => ⟨rv_mono s1 q1.rv, fun u H2 s2 hu => ?_⟩⟩⟩
        obtain rfl := int_of hv
        obtain rfl := int_of hu
        exact ⟨i, j, rfl, hc, kk _ H2 (fun _ => True) trueMono (s1.trans s2) (q1.step (s1.trans s2)).ghostT (wk_rng (fun i H hi => hi) (fun i H x H' hy => ⟨hy.1, by rw [hy.2]; simp⟩) (fun H => Nat.le_refl _))⟩
      · cases k
    · cases k
  · cases k
theorem okI_rng3 {tg d : Expr} {p : Pos} {fd : Rho → Option W} (hb : ("range" : Str) ∈ c.T.bl) (hk : c.sc.names.lookup ("range" : Str) = some .globalImplicit) (ha : OkE c a fa) (hb' : OkE c b fb) (hd : OkE c d fd)
    (hs : ∀ env, starEach [a, b, d] env = (false, eval a env) :: (false, eval b env) :: [(false, eval d env)] := by intro _; rfl) (hs1 : ∀ env, starEach [b, d] env = (false, eval b env) :: [(false, eval d env)] := by intro _; rfl) (hs2 : ∀ env, starEach [d] env = [(false, eval d env)] := by intro _; rfl) : OkIt c tg (.Call (.Name "range" p) [a, b, d] [] pos) (itR3 fa fb fd) := fun X gd r ds k => by
  unfold itR3 at k
  split at k
  · rename_i i e1
    split at k
    · rename_i j e2
      split at k
      · rename_i z e3
        split at k
        · rename_i hc
          cases k
          have h1 : starEach [a, b, d] X.env = (false, eval a X.env) :: starEach [b, d] X.env := by rw [hs, hs1]
          have h2 : starEach [b, d] X.env = (false, eval b X.env) :: starEach [d] X.env := by rw [hs1, hs2]
          refine ⟨_, pi_range3 ((gd.kind _).trans hk) (gd.tab.bl _ hb) (pa_cons (ha X gd r _ e1) (pa_cons (hb' X gd r _ e2) (pa_cons (hd X gd r _ e3) pa_nil (hs2 X.env)) h2) h1) h1 (by rw [hs1]; rfl), fun gh He s H q1 R kk => ⟨q1.rv, fun v H1 s1 hv => ⟨rv_mono s1 q1.rv, fun u H2 s2 hu => ⟨rv_mono (s1.trans s2) q1.rv, fun t H3 s3 ht => ?_⟩⟩⟩⟩
          obtain rfl := int_of hv
          obtain rfl := int_of hu
          obtain rfl := int_of ht
          refine ⟨i, j, z, _, rfl, ⟨hc.1, hc.2.1, hc.2.2.1, ?_⟩, kk _ H3 (fun _ => True) trueMono (s1.trans (s2.trans s3)) (q1.step (s1.trans (s2.trans s3))).ghostT (wk_rng (n := (Builtin.Range.rangeSize i j z).toNat) (fun i H hi => hi) (fun i H x H' hy => ⟨hy.1, hy.2⟩) (fun H => Nat.le_refl _))⟩
          have := hc.2.2.2
          omega
        · cases k
      · cases k
    · cases k
  · cases k
end
end Nm
namespace Nm
open PySem L2
section
variable {c : C0} {pos : Pos} {a b e : Expr} {fa fb f : Rho → Option W} {x y : Str} {px py p : Pos} {i j : Nat}
/-! ### is True, is False -/
def wIsB (neg : Bool) : W → W → Option W
  | .d (.bool i), .d (.bool j) => some (.d (.bool (if neg then !decide (i = j) else decide (i = j))))
  | _, _ => none
theorem oo_isB : OpOk c (wIsB false) (fun _ => rIsB) := fun X g H x y v u w Q h hx hy k => by
  unfold wIsB at h
  split at h
  · rename_i i j
    cases h
    exact ⟨i, j, bl_of hx, bl_of hy, k _ H (Same.refl H) (Dp.bl _)⟩
  · cases h
theorem oo_notB : OpOk c (wIsB true) (fun _ => rNotB) := fun X g H x y v u w Q h hx hy k => by
  unfold wIsB at h
  split at h
  · rename_i i j
    cases h
    exact ⟨i, j, bl_of hx, bl_of hy, k _ H (Same.refl H) (Dp.bl _)⟩
  · cases h
theorem ok_isB (ha : OkE c a fa) (hb : OkE c b fb) : OkE c (.Compare a [.Is] [b] pos) (cOp2 (wIsB false) fa fb) := ok_cmp (fun X g => op_isBl) oo_isB ha hb (nomark _)
theorem ok_notB (ha : OkE c a fa) (hb : OkE c b fb) : OkE c (.Compare a [.IsNot] [b] pos) (cOp2 (wIsB true) fa fb) := ok_cmp (fun X g => op_notBl) oo_notB ha hb (nomark _)
theorem okT_isB (ha : OkE c a fa) (hb : OkE c b fb) : OkT c (.Compare a [.Is] [b] pos) (cT (cOp2 (wIsB false) fa fb)) := okT_cmp (fun X g => op_isBl) oo_isB ha hb (nomark _)
theorem okT_notB (ha : OkE c a fa) (hb : OkE c b fb) : OkT c (.Compare a [.IsNot] [b] pos) (cT (cOp2 (wIsB true) fa fb)) := okT_cmp (fun X g => op_notBl) oo_notB ha hb (nomark _)
/-! ### lists put together -/
def rCatS (K : PySem.W.Frag) : R2 := fun x y H Q => ∃ l b xs zs, x = .ref l ∧ y = .ref b ∧ SqL K H l xs ∧ SqL K H b zs ∧ xs.length + zs.length ≤ sizeLine ∧ ∀ p, H p = none → Q (.ref p) (upd H p (.lst (xs ++ zs)))
theorem op_catS {X : Cx} : OpR X (binaryOp .Add) (rCatS X.K) := by
  intro pins s z H x y v u Q I rx ry h
  obtain ⟨l, b, xs, zs, rfl, rfl, hH, hB, hz, q⟩ := h
  cases rx
  cases ry
  obtain ⟨its, r, ⟨⟨cls, dd, data, sl⟩, n, ho, hc, _, hd⟩, _⟩ := I.list hH
  obtain ⟨its2, r2, ⟨⟨cls2, dd2, data2, sl2⟩, n2, ho2, hc2, _, hd2⟩, _⟩ := I.list hB
  simp only at hc hd hc2 hd2
  subst hc hd hc2 hd2
  have l1 := r.length
  have l2 := r2.length
  have ea : its.toArray ++ its2.toArray = (its ++ its2).toArray := by simp
  refine concat_meets ⟨_, ho, rfl⟩ ⟨_, ho2, rfl⟩ noFill_list_add seq_list_add PySem.F.slot_list_add PySem.F.entry_list_add (PySem.F.args_list_add_2 _ _) (PyProof.Rows.list_addW l b its.toArray its2.toArray n n2 dd dd2 sl sl2 (by rw [List.size_toArray, List.size_toArray]; omega)) ⟨ho, ho2, ?_⟩
  rw [ea]
  exact ⟨.ref _, _, I.lnew (t' := s.toks) (r.append r2) (by rw [List.length_append]; omega), rfl, q _ I.fresh⟩
def lCat (fa fb : Rho → Option W) : Rho → Option (List PyData) := fun r => match fa r with
  | some (.d (.list xs)) => match fb r with
    | some (.d (.list ys)) => if xs.length + ys.length ≤ 100000 then some (xs ++ ys) else none
    | _ => none
  | _ => none
theorem ok_cat (ha : OkE c a fa) (hb : OkE c b fb) : OkL c (.BinOp a .Add b pos) (lCat fa fb) := fun X gd r w h => by
  unfold lCat at h
  split at h
  · rename_i xs e1
    split at h
    · rename_i ys e2
      split at h
      · rename_i hz
        cases h
        refine pe_imp (pe_op op_catS (ha X gd r _ e1) (hb X gd r _ e2)) fun s H Q q => ⟨q.1, fun v H1 s1 hv => ⟨rv_mono s1 q.1, fun u H2 s2 hu => ?_⟩⟩
        have hv := rw_mono (w := .d (.list xs)) s2 hv
        cases hv with
        | lst hs ha =>
          cases hu with
          | lst hs2 ha2 =>
            refine ⟨_, _, _, _, rfl, rfl, hs, hs2, by rw [dpa_len _ _ ha, dpa_len _ _ ha2]; exact sz hz, fun p hp => ?_⟩
            exact q.2 p _ _ ((s1.trans s2).free hp) ((s1.trans s2).trans (same_new hp _)) upd_same (dpa_mono (same_new hp _) _ _ (dpa_app _ _ _ _ ha ha2))
      · cases h
    · cases h
  · cases h
/-! ### slices -/
def OkO (c : C0) (o : Option Expr) (f : Rho → Option (Option Int)) : Prop := ∀ X, Gd c X → ∀ r z, f r = some z → ∃ t, PO X o t ∧ ∀ s H Q, RV c.T X.K X.mg H s r → (∀ H', Same H H' → Q z H') → t s H Q
def oNone : Rho → Option (Option Int) := fun _ => some none
def oSome (f : Rho → Option W) : Rho → Option (Option Int) := fun r => match f r with
  | some (.d (.int i)) => some (some i)
  | _ => none
theorem okO_none : OkO c none oNone := fun X gd r z h => by
  cases h
  exact ⟨_, po_none, fun s H Q h1 h2 => h2 H (Same.refl H)⟩
theorem okO_some (h : OkE c e f) : OkO c (some e) (oSome f) := fun X gd r z k => by
  unfold oSome at k
  split at k
  · rename_i i e1
    cases k
    exact ⟨_, po_some (h X gd r _ e1), fun s H Q h1 h2 => ⟨h1, fun v H1 s1 hv => ⟨i, int_of hv, h2 H1 s1⟩⟩⟩
  · cases k
variable {lo hi : Option Expr} {fl fh : Rho → Option (Option Int)} {p2 : Pos}
def cSlS (f : Rho → Option W) (fl fh : Rho → Option (Option Int)) : Rho → Option W := fun r => match f r with
  | some (.d (.str z)) => match fl r with
    | some l => match fh r with
      | some h => if z.length ≤ 100000 then some (.d (.str (cutS z l h))) else none
      | none => none
    | none => none
  | _ => none
theorem ok_slS (h : OkE c e f) (hl : OkO c lo fl) (hh : OkO c hi fh) : OkE c (.Subscript e (.Slice lo hi none p2) pos) (cSlS f fl fh) := fun X gd r w k => by
  unfold cSlS at k
  split at k
  · rename_i z e1
    split at k
    · rename_i l e2
      split at k
      · rename_i u e3
        split at k
        · rename_i hz
          cases k
          obtain ⟨tl, pl, kl⟩ := hl X gd r l e2
          obtain ⟨th, ph, kh⟩ := hh X gd r u e3
          refine pe_imp (pe_slice sl_str (h X gd r _ e1) pl ph) fun s H Q q => ⟨q.1, fun v H1 s1 hv => kl s H1 _ (rv_mono s1 q.1) fun H2 s2 => kh s H2 _ (rv_mono (s1.trans s2) q.1) fun H3 s3 => ?_⟩
          exact ⟨z, str_of hv, sz hz, q.2 _ H3 (s1.trans (s2.trans s3)) (Dp.str _)⟩
        · cases k
      · cases k
    · cases k
  · cases k
def cutD (xs : List PyData) (lo hi : Option Int) : List PyData := (xs.drop (HT.sIx xs.length 0 lo)).take (HT.sIx xs.length xs.length hi - HT.sIx xs.length 0 lo)
theorem dpa_drop {K : PySem.W.Frag} {H : Hp} : ∀ (n : Nat) (ds : List PyData) (vs : List V), DpAll K H vs ds → DpAll K H (vs.drop n) (ds.drop n)
  | 0, _, _, h => h
  | n + 1, [], _, h => by cases h; exact .nil
  | n + 1, d :: ds, _, h => by
    cases h with
    | cons h1 h2 => exact dpa_drop n ds _ h2
theorem dpa_take {K : PySem.W.Frag} {H : Hp} : ∀ (n : Nat) (ds : List PyData) (vs : List V), DpAll K H vs ds → DpAll K H (vs.take n) (ds.take n)
  | 0, _, _, h => .nil
  | n + 1, [], _, h => by cases h; exact .nil
  | n + 1, d :: ds, _, h => by
    cases h with
    | cons h1 h2 => exact .cons h1 (dpa_take n ds _ h2)
def lSl (f : Rho → Option W) (fl fh : Rho → Option (Option Int)) : Rho → Option (List PyData) := fun r => match f r with
  | some (.d (.list z)) => match fl r with
    | some l => match fh r with
      | some h => some (cutD z l h)
      | none => none
    | none => none
  | _ => none
theorem ok_slL (h : OkE c e f) (hl : OkO c lo fl) (hh : OkO c hi fh) : OkL c (.Subscript e (.Slice lo hi none p2) pos) (lSl f fl fh) := fun X gd r w k => by
  unfold lSl at k
  split at k
  · rename_i z e1
    split at k
    · rename_i l e2
      split at k
      · rename_i u e3
        cases k
        obtain ⟨tl, pl, kl⟩ := hl X gd r l e2
        obtain ⟨th, ph, kh⟩ := hh X gd r u e3
        refine pe_imp (pe_slice sl_list (h X gd r _ e1) pl ph) fun s H Q q => ⟨q.1, fun v H1 s1 hv => kl s H1 _ (rv_mono s1 q.1) fun H2 s2 => kh s H2 _ (rv_mono (s1.trans s2) q.1) fun H3 s3 => ?_⟩
        have hv := rw_mono (w := .d (.list z)) (s2.trans s3) hv
        cases hv with
        | lst hs ha =>
          refine ⟨_, _, rfl, hs, fun p hp => ?_⟩
          have e5 := dpa_len _ _ ha
          refine q.2 p _ _ ((s1.trans (s2.trans s3)).free hp) ((s1.trans (s2.trans s3)).trans (same_new hp _)) upd_same ?_
          unfold cutV cutD
          rw [e5]
          exact dpa_mono (same_new hp _) _ _ (dpa_take _ _ _ (dpa_drop _ _ _ ha))
      · cases k
    · cases k
  · cases k
/-- s[::-1] -/
def revS (z : Str) : Str := ⟨((Builtin.Str.strSliceIndices none none (-1) z.length).filterMap (z.cps[·]?)).toArray⟩
def cRev (f : Rho → Option W) : Rho → Option W := fun r => match f r with
  | some (.d (.str z)) => if (revS z).length ≤ 100000 then some (.d (.str (revS z))) else none
  | _ => none
theorem pe_revS {X : Cx} {e : Expr} {te : TE} {k : Nat} {p1 p2 p3 pos : Pos} (he : PE X e te) : PE X (.Subscript e (.Slice none none (some (.UnaryOp .USub (.Constant (.int 1) k p1) p2)) p3) pos) (fun s H Q => te s H fun x H1 => ∃ z, x = .str z ∧ (revS z).length ≤ sizeLine ∧ Q (.str (revS z)) H1) := by
  refine ⟨fun pins s z H Q I h => ?_⟩
  refine PyProof.Rows.Subscript_ (thn (he.run pins s z H _ I h) fun v s1 ⟨x, H1, I1, r1, q1⟩ => ?_)
  obtain ⟨w, ex, hx, q⟩ := q1
  subst ex
  obtain ⟨t, rfl⟩ := r1
  have hst : PO X (some (.UnaryOp .USub (.Constant (.int 1) k p1) p2)) (tPart (tUn (rU fun i => .int (-i)) (tC (.int 1)))) := po_some (pe_un un_neg pe_int)
  refine wpAny_Slice (thn (po_none.run pins s1 z H1 (fun o H2 => o = none ∧ H2 = H1) I1 ⟨rfl, rfl⟩) fun vl s2 ⟨l, H2, I2, pl, el, e2⟩ => ?_)
  subst el e2
  refine thn (po_none.run pins s2 z H2 (fun o H3 => o = none ∧ H3 = H2) I2 ⟨rfl, rfl⟩) fun vu s3 ⟨u, H3, I3, pu, eu, e3⟩ => ?_
  subst eu e3
  refine thn (hst.run pins s3 z H3 (fun o H4 => o = some (-1) ∧ H4 = H3) I3 ⟨1, rfl, -1, rfl, rfl, rfl⟩) fun vs s4 ⟨o, H4, I4, ps, eo, e4⟩ => ?_
  subst eo e4
  have I5 : Inv X pins z H4 { s4 with heap := s4.heap.push { cls := .type "slice", data := .fields #[vl, vu, vs] } } := I4.kept (t' := s4.toks) fun b ob q => Heap.get?_push_of_some _ q
  obtain ⟨l', rfl, hl'⟩ := IsPart.raw pl
  obtain ⟨u', rfl, hu'⟩ := IsPart.raw pu
  obtain ⟨w', rfl, hw'⟩ := IsPart.raw ps
  show wpAny (model X.prog X.w) X.A (PyProof.Rows.subscriptTail e (.Slice none none (some (.UnaryOp .USub (.Constant (.int 1) k p1) p2)) p3) (.str w t) (.ref s4.heap.objs.size)) (EP X pins z Q) X.xe { s4 with heap := s4.heap.push { cls := .type "slice", data := .fields #[partValue l', partValue u', partValue w'] } }
  refine PyProof.Rows.tail_any (ops := [.str w t, .ref s4.heap.objs.size]) (typeIs_str _ _ _) (PySem.F.slot_str_getitem.lookup) ?_ (by with_unfolding_all rfl)
  refine wpAny_getItem_str_slice (l := l') (u := u') (st := w') (Heap.IsSliceOf.new _ _ _ _) (by rw [hw']; rfl) ?_
  unfold sliceMade slicePicked
  rw [hl', hu', hw']
  show Made.post (if ((-1 : Int) == 1 && (Builtin.Str.strSliceIndices none none (-1) w.length).length == w.length) = true then Made.val (.str w t) else Made.str (revS w)) (EP X pins z Q) _
  rw [if_neg (by simp)]
  exact ⟨hx, .str _, H4, I5.tok _, ⟨_, rfl⟩, q⟩
theorem ok_rev {k : Nat} {p1 p2 p3 : Pos} (h : OkE c e f) : OkE c (.Subscript e (.Slice none none (some (.UnaryOp .USub (.Constant (.int 1) k p1) p2)) p3) pos) (cRev f) := fun X gd r w kk => by
  unfold cRev at kk
  split at kk
  · rename_i z e1
    split at kk
    · rename_i hz
      cases kk
      exact pe_imp (pe_revS (h X gd r _ e1)) fun s H Q q => ⟨q.1, fun v H1 s1 hv => ⟨z, str_of hv, sz hz, q.2 _ H1 s1 (Dp.str _)⟩⟩
    · cases kk
  · cases kk
/-! ### own lists: append, extend, pop -/
variable {apos cpos : Pos}
def sApp (i : Nat) (f : Rho → Option W) : CS := fun r => match r[i]? with
  | some (some (.own xs)) => match f r with
    | some (.d d) => if imm d && decide (xs.length < 100000) then some (.nx (r.set i (some (.own (xs ++ [d]))))) else none
    | _ => none
  | _ => none
theorem okS_app (i : Nat) (hN : c.N[i]? = some x) (hv : Vis c.sc x) (he : OkE c e f) (hs : ∀ env, starEach [e] env = [(false, eval e env)] := by intro _; rfl)
    (hfew : ∀ env, ((backTo cpos (starEach [e] env)).all (fun x => !x.1) && (backToKw cpos (keywordEach [] env)).all (fun x => x.1.isSome) && decide ([e].length + ([] : List Keyword).length + (if ([] : List Keyword).isEmpty then 0 else 1) < 30)) = true := by intro _; rfl)
    (hline : (apos.endLine == cpos.line) = true := by rfl) (hd : (x == ("__debug__" : Str)) = false := by decide) (hcd : (x == ("__classdict__" : Str)) = false := by decide) :
    OkS c (.Expr (.Call (.Attribute (.Name x px) "append" apos) [e] [] cpos) pos) (sApp i f) := fun X gd hx r o k => by
  unfold sApp at k
  split at k
  · rename_i xs e1
    split at k
    · rename_i d e2
      split at k
      · rename_i hc
        have hc' : imm d = true ∧ xs.length < 100000 := by simpa using hc
        cases k
        refine ps_imp (ps_expr (pe_bm PySem.F.plainAttrs_list PySem.F.slot_list_append PySem.F.type_list_append mt_append (pe_var (i := i) (by rw [gd.hN]; exact hN) (by rw [gd.hsc]; exact hv) hd hcd) (pa_cons (he X gd r _ e2) pa_nil (hs X.env)) rfl (hfew X.env) hline (hs X.env) rfl) rfl) fun D s H ⟨gh, He, ⟨O, q1⟩, q2⟩ => ?_
        obtain ⟨a, vs, h1, h2, h3, h4⟩ := q1.ov i xs e1
        refine ⟨_, h1, .inl ⟨rfl, _, SqL.of h3⟩, q1.rv, fun v H1 s1 hv => ?_⟩
        have q3 := q1.step s1
        obtain ⟨a', vs', h1', h2', h3', h4'⟩ := q3.ov i xs e1
        rw [h1] at h1'
        cases h1'
        refine ⟨a, vs', v, rfl, rfl, h3', by rw [dpa_len _ _ h4']; exact Nat.lt_of_lt_of_le hc'.2 (by decide), ?_⟩
        exact q2 _ _ ⟨O, q3.mut e1 h1 h2 (dpa_app _ _ _ _ h4' (.cons (dp_tmono (mask_tsame fun a z => (q3.ow a z).2) d v hc'.1 hv) .nil))⟩
      · cases k
    · cases k
  · cases k
/-- y = xs.pop() -/
def sPop (j i : Nat) : CS := fun r => match r[i]? with
  | some (some (.own xs)) => match xs.getLast? with
    | some d => some (.nx ((r.set i (some (.own xs.dropLast))).set j (some (.w (.d d)))))
    | none => none
  | _ => none
theorem dpa_dropLast {K : PySem.W.Frag} {H : Hp} {ds : List PyData} {vs : List V} (h : DpAll K H vs ds) : DpAll K H vs.dropLast ds.dropLast := by
  rw [List.dropLast_eq_take, List.dropLast_eq_take, dpa_len _ _ h]
  exact dpa_take _ _ _ h
theorem okS_pop (j i : Nat) (hN : c.N[i]? = some x) (hv : Vis c.sc x) (hN2 : c.N[j]? = some y) (hl2 : Loc c.sc y) (hij : j ≠ i) (hline : (apos.endLine == cpos.line) = true := by rfl)
    (hf : c.sc.names.lookup y = some .local := by rfl) (hd : (x == ("__debug__" : Str)) = false := by decide) (hcd : (x == ("__classdict__" : Str)) = false := by decide) :
    OkS c (.Assign [.Name y py] (.Call (.Attribute (.Name x px) "pop" apos) [] [] cpos) pos) (sPop j i) := fun X gd hx r o k => by
  unfold sPop at k
  split at k
  · rename_i xs e1
    split at k
    · rename_i d e2
      cases k
      refine ps_imp (ps_set (i := j) (by rw [gd.hN]; exact gd.nd) (by rw [gd.hN]; exact hN2) (by rw [gd.hsc]; exact hl2) (pe_bm0 PySem.F.plainAttrs_list PySem.F.slot_list_pop PySem.F.type_list_pop mt_pop (pe_var (i := i) (by rw [gd.hN]; exact hN) (by rw [gd.hsc]; exact hv) hd hcd) rfl hline) rfl (.inr (by rw [gd.hsc]; exact hf))) fun D s H ⟨gh, He, ⟨O, q1⟩, q2⟩ => ?_
      obtain ⟨a, vs, h1, h2, h3, h4⟩ := q1.ov i xs e1
      have e3 : xs[xs.length - 1]? = some d := by rw [← List.getLast?_eq_getElem?]; exact e2
      obtain ⟨v, h5, h6⟩ := dpa_get _ _ _ _ h4 e3
      refine ⟨_, h1, .inl ⟨rfl, _, SqL.of h3⟩, a, vs, v, rfl, rfl, h3, by rw [dpa_len _ _ h4]; exact h5, ?_⟩
      have q3 := q1.mut e1 h1 h2 (dpa_dropLast h4)
      have em : mask (upd H a (.lst vs.dropLast)) O = mask H O := funext fun b => by
        by_cases q : O b
        · rw [mask_in q, mask_in q]
        · rw [mask_out q, mask_out q, upd_ne (fun z => q (by rw [z]; exact h2))]
      exact q2 _ _ ⟨O, q3.set (w := .d d) (by rw [em]; exact h6) j⟩
    · cases k
  · cases k
/-! ### enumerate(text) -/
def Itn (x : Str) : It :=
  ⟨fun i _ => i < x.cps.size, fun i H v H' => ∃ T n, v = .ref T ∧ H T = none ∧ x.cps[i]? = some n ∧ H' = upd H T (.tup [.int (i : Nat), .str ⟨#[n]⟩]), fun i _ => i = x.cps.size⟩
theorem turn_enumS {P : Program} {w : World} {K : PySem.W.Frag} {elts : List Expr} {kk : Nat} {tpos : Pos} (z : Str) (t : Tok) (e it : Addr) :
    Turn P w K (.Tuple elts kk tpos) (Itn z) [e, it] e (fun i h => (∃ old, IsEnum h e it ((i : Nat) : Int) old) ∧ h.IsStrIter it (strIterType z) z t i ∧ e ≠ it) where
  mem := by simp
  obj := fun i h st b hb => by
    obtain ⟨⟨old, he⟩, ⟨o, ho, hc, hd⟩, _⟩ := st
    have e' : b = e ∨ b = it := by simpa using hb
    rcases e' with z | z
    · rw [z]; exact ⟨_, he, fun v q => nomatch q⟩
    · rw [z]; exact ⟨o, ho, fun v q => by rw [hd] at q; cases q⟩
  keep := fun i h h' st k => let ⟨⟨old, he⟩, ⟨o, ho, hc, hd⟩, hne⟩ := st; ⟨⟨old, k e (by simp) _ he⟩, ⟨o, k it (by simp) _ ho, hc, hd⟩, hne⟩
  item := by
    intro X hP hw hK hc i pins s y H E I hf st hg
    subst hP hw hK
    obtain ⟨⟨old, he⟩, hit, hne⟩ := st
    have hel : e < s.heap.objs.size := Heap.lt_size he
    have hil : it < s.heap.objs.size := by obtain ⟨_, q, _⟩ := hit; exact Heap.lt_size q
    have D := Draws.text (prog := X.prog) (w := X.w) (A := X.A.in1) (I.ok.hd hc) it z t
    refine wpAny_pyNext_enum_itemD D he hit hg hne (by simpa using hne) fun x h' tk hPx ho hit' hT hsz hk => ?_
    obtain ⟨n, u, hn, rfl⟩ := hPx
    refine ⟨_, rfl, wpAny_letOwnedTupleGo_enum (s := { s with heap := h', toks := tk + 1 }) ho fun h'' he' sb => ?_⟩
    have hT2 : h''.get? s.heap.objs.size = some { cls := .type "tuple", data := .seq #[.int i tk, .str ⟨#[n]⟩ u] } := (sb.2 _ (Nat.ne_of_gt hel)).trans hT
    have new : ObjOk X.prog X.w (upd H s.heap.objs.size (.tup [.int (i : Nat), .str ⟨#[n]⟩])) h'' s.heap.objs.size (.tup [.int (i : Nat), .str ⟨#[n]⟩]) :=
      ⟨by show 2 ≤ sizeLine; decide, [.int i tk, .str ⟨#[n]⟩ u], .cons ⟨_, rfl⟩ (.cons ⟨_, rfl⟩ .nil), ⟨_, hT2, rfl, _, rfl⟩⟩
    have I1 : Inv X pins y (upd H s.heap.objs.size (.tup [.int (i : Nat), .str ⟨#[n]⟩])) { s with heap := h'', toks := tk + 1 } :=
      I.turnedNew (ch := [e, it]) (fun b ob hb q => (sb.2 b (fun z => hb (by simp [z]))).trans (hk b ob (fun z => hb (by simp [z])) (fun z => hb (by simp [z])) q)) hf (Nat.le_refl _) new
    refine ⟨.ref s.heap.objs.size, _, I1, rfl, ⟨_, n, rfl, I.hok.fresh (Nat.le_refl _), hn, rfl⟩, ⟨⟨.str ⟨#[n]⟩ u, ?_⟩, ?_, hne⟩, fun b hb => ?_⟩
    · have e1 : ((i + 1 : Nat) : Int) = (i : Int) + 1 := by omega
      rw [e1]; exact he'
    · obtain ⟨o, ho2, hc2, hd2⟩ := hit'
      exact ⟨o, (sb.2 it (Ne.symm hne)).trans ho2, hc2, hd2⟩
    · have hb' : b < s.heap.objs.size := by
        have e' : b = e ∨ b = it := by simpa using hb
        rcases e' with z | z
        · rw [z]; exact hel
        · rw [z]; exact hil
      rw [upd_ne (Nat.ne_of_lt hb')]
      exact (hf b hb).1
  done := by
    intro X hP hw hK hc i pins s y H E I hf st hg
    subst hP hw hK
    obtain ⟨⟨old, he⟩, hit, hne⟩ := st
    obtain ⟨f0, f1, f2, f3, f4, f5⟩ := hf it (by simp)
    have D := Draws.text (prog := X.prog) (w := X.w) (A := X.A.in1) (I.ok.hd hc) it z t
    have hg : i = z.cps.size := hg
    subst hg
    exact wpAny_pyNext_enum_endD D he hit fun h' eb => ⟨rfl, I.turned (t' := s.toks) (fun b o hb q => eb b o hb q) f0 f1 f3 f4 f5⟩
  self := fun A i s Q E st h => let ⟨⟨_, he⟩, _⟩ := st; wpAny_pyIter_enum he h
def iEnumS (ta : TA) : TI := fun s H R => ta s H fun vs H1 => ∃ z, vs = [.str z] ∧ R (Itn z) H1
theorem pi_enumS {X : Cx} {e : Expr} {ta : TA} {p pos tpos : Pos} {elts : List Expr} {kk : Nat} (hg : Gl X "enumerate") (hm : X.mg "enumerate" = none) (ha : PA X [e] ta) (hs : starEach [e] X.env = [(false, eval e X.env)]) :
    PI X (.Tuple elts kk tpos) (.Call (.Name "enumerate" p) [e] [] pos) (iEnumS ta) := by
  refine ⟨fun pins s y H R I h => ?_⟩
  refine PyProof.Rows.Call_ (ld_blt I hg hm PyProof.Rows.boot_enumerate (PyProof.Rows.callWith_type1 (thn (ha.run pos pins s y H _ I h) fun us s1 ⟨vs, H1, I1, r1, q1⟩ => ?_) hs rfl))
  obtain ⟨z, ex, q⟩ := q1
  subst ex
  cases r1 with
  | cons r rr =>
    cases rr
    obtain ⟨t, rfl⟩ := r
    refine call_enumerate_str fun h' he hit hsz hk => wpAny_pyIter_enum he ?_
    have I2 : Inv X pins y H1 { s1 with heap := h' } := I1.kept (t' := s1.toks) hk
    refine ⟨s1.heap.objs.size + 1, [s1.heap.objs.size + 1, s1.heap.objs.size], _, _, H1, rfl, I2, turn_enumS z t (s1.heap.objs.size + 1) s1.heap.objs.size, ⟨⟨.none, he⟩, hit, Nat.succ_ne_self _⟩, fun b hb => ?_, q⟩
    have e' : b = s1.heap.objs.size + 1 ∨ b = s1.heap.objs.size := by simpa using hb
    have hle : s1.heap.objs.size ≤ b := by
      rcases e' with z | z
      · rw [z]; exact Nat.le_add_right _ _
      · rw [z]; exact Nat.le_refl _
    exact I1.fpOk hle (I1.hok.fresh hle)
def enS : Int → List Nat → List PyData
  | _, [] => []
  | n, d :: r => .tuple [.int n, .str ⟨#[d]⟩] :: enS (n + 1) r
def itE (f : Rho → Option W) : Rho → Option (List PyData) := fun r => match f r with
  | some (.d (.str z)) => some (enS 0 z.cps.toList)
  | _ => none
theorem enS_len : ∀ (n : Int) (l : List Nat), (enS n l).length = l.length
  | _, [] => rfl
  | n, d :: r => by show (enS (n + 1) r).length + 1 = r.length + 1; rw [enS_len (n + 1) r]
theorem enS_get : ∀ (n : Int) (l : List Nat) (i : Nat), (enS n l)[i]? = (l[i]?).map fun d => .tuple [.int (n + i), .str ⟨#[d]⟩]
  | _, [], i => by simp [enS]
  | n, d :: r, 0 => by simp [enS]
  | n, d :: r, i + 1 => by
    show (enS (n + 1) r)[i]? = _
    rw [enS_get (n + 1) r i]
    have e : n + 1 + (i : Int) = n + ((i + 1 : Nat) : Int) := by omega
    rw [e]
    rfl
theorem okI_enum {elts : List Expr} {kk : Nat} {tpos : Pos} (hb : ("enumerate" : Str) ∈ c.T.bl) (hk : c.sc.names.lookup ("enumerate" : Str) = some .globalImplicit) (he : OkE c e f) (hs : ∀ env, starEach [e] env = [(false, eval e env)] := by intro _; rfl) :
    OkIt c (.Tuple elts kk tpos) (.Call (.Name "enumerate" p) [e] [] pos) (itE f) := fun X gd r ds k => by
  unfold itE at k
  split at k
  · rename_i z e1
    cases k
    refine ⟨_, pi_enumS ((gd.kind _).trans hk) (gd.tab.bl _ hb) (pa_cons (he X gd r _ e1) pa_nil (hs X.env)) (hs X.env), fun gh He s H q1 R kk => ⟨q1.rv, fun v H1 s1 hv => ?_⟩⟩
    obtain rfl := str_of hv
    refine ⟨z, rfl, kk (Itn z) H1 (fun _ => True) trueMono s1 (q1.step s1).ghostT ?_⟩
    refine ⟨fun i H O g hi => ?_, fun i H O x H' d hO g hd hy => ?_, fun H O g => ?_⟩
    · rw [enS_len] at hi
      have hi' : i < z.cps.size := by simpa using hi
      exact hi'
    · obtain ⟨T, n, rfl, hT, hn, rfl⟩ := hy
      refine ⟨same_new hT _, ?_⟩
      rw [enS_get] at hd
      have e3 : z.cps.toList[i]? = some n := by rw [Array.getElem?_toList]; exact hn
      rw [e3] at hd
      have nO : ¬ O T := fun z => hO T z hT
      cases hd
      refine Dp.tup (xs := [.int (i : Nat), .str ⟨#[n]⟩]) (SqT.of (by rw [mask_out nO]; exact upd_same)) (.cons ?_ (.cons (Dp.str _) .nil))
      have e4 : (0 : Int) + (i : Int) = (i : Int) := by omega
      rw [e4]
      exact Dp.int _
    · rw [enS_len]
      show z.cps.toList.length = z.cps.size
      simp
  · cases k
/-! ### a, b = x, y -/
theorem okS_par2 {k1 k2} {p1 p2 : Pos} (i j : Nat) (hN : c.N[i]? = some x) (hl : c.sc.names.lookup x = some .local) (hN2 : c.N[j]? = some y) (hl2 : c.sc.names.lookup y = some .local) (hij : i ≠ j) (ha : OkE c a fa) (hb : OkE c b fb)
    (hw : ∀ env : Env, env.scope = c.sc → swappedStores [.Tuple [.Name x px, .Name y py] k1 p1] (.Tuple [a, b] k2 p2) env = pure (some [x, y]) := by intro env h; cases env; simp only at h; subst h; rfl)
    (hs : ∀ env, starEach [a, b] env = (false, eval a env) :: starEach [b] env := by intro _; rfl) (hs2 : ∀ env, starEach [b] env = [(false, eval b env)] := by intro _; rfl) :
    OkS c (.Assign [.Tuple [.Name x px, .Name y py] k1 p1] (.Tuple [a, b] k2 p2) pos) (sPar i j fa fb) :=
  okS_par i j hN (.inl hl) hN2 (.inl hl2) hij ha hb (fun X gd ta hA => ps_par gd.calm (by rw [gd.hN]; exact gd.nd) (by rw [gd.hN]; exact hN) (by rw [gd.hN]; exact hN2) hij (by rw [gd.hsc]; exact hl) (by rw [gd.hsc]; exact hl2) hA (hw X.env gd.hsc) rfl) hs hs2
/-- a, b = xs.pop(), xs.pop() -/
def sPop2 (j m i : Nat) : CS := fun r => match r[i]? with
  | some (some (.own xs)) => match xs.getLast? with
    | some d => match xs.dropLast.getLast? with
      | some e => some (.nx (((r.set i (some (.own xs.dropLast.dropLast))).set j (some (.w (.d d)))).set m (some (.w (.d e)))))
      | none => none
    | none => none
  | _ => none
theorem okS_pop2 {z : Str} {k1 k2} {p1 p2 q1 a1 c1 q2 a2 c2 : Pos} (j m i : Nat) (hN : c.N[i]? = some z) (hv : Vis c.sc z) (hNj : c.N[j]? = some x) (hl : c.sc.names.lookup x = some .local) (hNm : c.N[m]? = some y) (hl2 : c.sc.names.lookup y = some .local) (hjm : j ≠ m)
    (hw : ∀ env : Env, env.scope = c.sc → swappedStores [.Tuple [.Name x px, .Name y py] k1 p1] (.Tuple [.Call (.Attribute (.Name z q1) "pop" a1) [] [] c1, .Call (.Attribute (.Name z q2) "pop" a2) [] [] c2] k2 p2) env = pure (some [x, y]) := by intro env h; cases env; simp only at h; subst h; rfl)
    (hline1 : (a1.endLine == c1.line) = true := by rfl) (hline2 : (a2.endLine == c2.line) = true := by rfl)
    (hd : (z == ("__debug__" : Str)) = false := by decide) (hcd : (z == ("__classdict__" : Str)) = false := by decide) :
    OkS c (.Assign [.Tuple [.Name x px, .Name y py] k1 p1] (.Tuple [.Call (.Attribute (.Name z q1) "pop" a1) [] [] c1, .Call (.Attribute (.Name z q2) "pop" a2) [] [] c2] k2 p2) pos) (sPop2 j m i) := fun X gd hx r o k => by
  unfold sPop2 at k
  split at k
  · rename_i xs e1
    split at k
    · rename_i d e2
      split at k
      · rename_i e e3
        cases k
        have hA : PA X [.Call (.Attribute (.Name z q1) "pop" a1) [] [] c1, .Call (.Attribute (.Name z q2) "pop" a2) [] [] c2] _ :=
          pa_cons (pe_bm0 PySem.F.plainAttrs_list PySem.F.slot_list_pop PySem.F.type_list_pop mt_pop (pe_var (i := i) (by rw [gd.hN]; exact hN) (by rw [gd.hsc]; exact hv) hd hcd) rfl hline1)
            (pa_cons (pe_bm0 PySem.F.plainAttrs_list PySem.F.slot_list_pop PySem.F.type_list_pop mt_pop (pe_var (i := i) (by rw [gd.hN]; exact hN) (by rw [gd.hsc]; exact hv) hd hcd) rfl hline2) pa_nil)
        refine ps_imp (ps_par (i := j) (j := m) gd.calm (by rw [gd.hN]; exact gd.nd) (by rw [gd.hN]; exact hNj) (by rw [gd.hN]; exact hNm) hjm (by rw [gd.hsc]; exact hl) (by rw [gd.hsc]; exact hl2) hA (hw X.env gd.hsc) rfl) fun D s H ⟨gh, He, ⟨O, q1⟩, q2⟩ => ?_
        obtain ⟨a, vs, h1, h2, h3, h4⟩ := q1.ov i xs e1
        have e5 : xs[xs.length - 1]? = some d := by rw [← List.getLast?_eq_getElem?]; exact e2
        have e6 : xs.dropLast[xs.dropLast.length - 1]? = some e := by rw [← List.getLast?_eq_getElem?]; exact e3
        obtain ⟨v, h5, h6⟩ := dpa_get _ _ _ _ h4 e5
        have h4' := dpa_dropLast h4
        obtain ⟨u, h7, h8⟩ := dpa_get _ _ _ _ h4' e6
        have q3 := q1.mut e1 h1 h2 (dpa_dropLast h4')
        have em : mask (upd H a (.lst vs.dropLast.dropLast)) O = mask H O := funext fun b => by
          by_cases q : O b
          · rw [mask_in q, mask_in q]
          · rw [mask_out q, mask_out q, upd_ne (fun z => q (by rw [z]; exact h2))]
        have q4 : RSO c.T X.K X.mg gh He O (upd (upd H a (.lst vs.dropLast)) a (.lst vs.dropLast.dropLast)) s (r.set i (some (.own xs.dropLast.dropLast))) := by rw [upd_upd]; exact q3
        refine ⟨_, h1, .inl ⟨rfl, _, SqL.of h3⟩, a, vs, v, rfl, rfl, h3, by rw [dpa_len _ _ h4]; exact h5, ?_⟩
        refine ⟨_, h1, .inl ⟨rfl, _, SqL.of upd_same⟩, a, vs.dropLast, u, rfl, rfl, upd_same, by rw [dpa_len _ _ h4']; exact h7, ?_⟩
        refine ⟨v, u, rfl, q2 _ _ ⟨O, (q4.set (w := .d d) ?_ j).set (w := .d e) ?_ m⟩⟩
        · rw [upd_upd, em]; exact h6
        · rw [upd_upd, em]; exact h8
      · cases k
    · cases k
  · cases k
end
/-! ### a def -/
/-- the environment at the entry -/
def rho0 (N : List Str) (args : List W) : Rho := args.map (fun w => some (.w w)) ++ List.replicate (N.length - args.length) none
def runD (N : List Str) (n : Nat) (g : CS) (args : List W) : Option Res := if args.length = n then match g (rho0 N args) with
    | some (.rt z) => some z
    | some (.nx _) => some (.w (.d .none))
    | _ => none
  else none
theorem rwa_get {T : Tab} {K : PySem.W.Frag} {mg : Str → Option Value} {H : Hp} : ∀ {vs : List V} {ws : List W} (i : Nat) (w : W), RwAll T K mg H vs ws → ws[i]? = some w → ∃ v, vs[i]? = some v ∧ Rw T K mg H v w
  | _, _, i, w, .nil, e => by simp at e
  | _, _, 0, w, .cons h t, e => by simp at e; subst e; exact ⟨_, rfl, h⟩
  | _, _, i + 1, w, .cons h t, e => by
    obtain ⟨v, h1, h2⟩ := rwa_get i w t (by simpa using e)
    exact ⟨v, by simpa using h1, h2⟩
theorem rs_start {T : Tab} {K : PySem.W.Frag} {mg : Str → Option Value} {H : Hp} {N : List Str} {vs : List V} {ws : List W} (h : RwAll T K mg H vs ws) : RS T K mg (fun _ => True) H H (L2.start N vs) (rho0 N ws) := by
  have hl := rwa_len h
  have key : ∀ (i : Nat) (o : Sl), (rho0 N ws)[i]? = some (some o) → ∃ w, ws[i]? = some w ∧ o = .w w := fun i o e => by
    unfold rho0 at e
    rw [List.getElem?_append] at e
    split at e
    · rw [List.getElem?_map] at e
      cases q : ws[i]? with
      | none => rw [q] at e; cases e
      | some w => rw [q] at e; cases e; exact ⟨w, rfl, rfl⟩
    · rw [List.getElem?_replicate] at e
      split at e <;> cases e
  refine ⟨fun _ => False, ?_, Same.refl H, fun a z => z.elim, fun i x e => ?_, fun i xs e => ?_, fun i j xs ys a e => ?_, trueMono, trivial⟩
  · unfold L2.start rho0
    rw [List.length_append, List.length_append, List.length_map, List.length_map, List.length_replicate, List.length_replicate, hl]
  · obtain ⟨w, h1, h2⟩ := key i _ e
    cases h2
    obtain ⟨v, h3, h4⟩ := rwa_get i _ h h1
    refine ⟨v, ?_, by rw [mask_no]; exact h4⟩
    unfold L2.start
    have hi : i < vs.length := (List.getElem?_eq_some_iff.mp h3).1
    rw [List.getElem?_append_left (by simpa using hi), List.getElem?_map, h3]
    rfl
  · obtain ⟨w, h1, h2⟩ := key i _ e
    cases h2
  · obtain ⟨w, h1, h2⟩ := key i _ e
    cases h2
/-- a def keeps its mirror -/
theorem def_ok {T : Tab} {P : Program} {w : World} {K : PySem.W.Frag} {mg : Str → Option Value} {base : Heap} {F : Fs} {k : Nat} {x qual : Str} {st : Stmt} {f : Addr} {fd : FuncData} {N ps : List Str} {g : CS} {args : List W} {r : Res}
    (FN : Fun K x qual st f fd) (S : FnScope N ps (defScope st)) (tab : TabOk T mg) (cal : ∀ i args r, F i args = some r → Calb T P w K mg base k i args r)
    (clo : ∀ i, i < T.nc → ClOk T P w K mg base i) (h : OkSs ⟨T, N, F, k, defScope st⟩ (defBody st) g) (e : runD N ps.length g args = some r) : FnOk P w K mg base CX0 (k + 1) f fd ps (spR T K mg args r) := by
  unfold runD at e
  split at e
  · rename_i hn
    refine FN.ok S (fun vs H Q E q => by rw [rwa_len q.1, hn]) (fun cdv A outer s H vs Q E hr q => ?_)
    have gd : Gd ⟨T, N, F, k, defScope st⟩ (cxOf CX0 P w K mg base N qual (defScope st) f cdv A outer s H E).nox := ⟨rfl, rfl, rfl, hr, S.nd, tab, cal, clo⟩
    obtain ⟨q1, q2⟩ := q
    have q3 := rs_start (N := N) q1
    split at e
    · rename_i z e1
      cases e
      refine ⟨_, h _ gd rfl _ _ e1, fun _ => True, H, q3, ?_⟩
      cases r with
      | w x => exact q2
      | fl xs => exact fun p vs H' hp s1 h1 hd => q2 p vs H' hp s1 h1 hd
    · rename_i r' e1
      cases e
      exact ⟨_, h _ gd rfl _ _ e1, fun _ => True, H, q3, fun s H' q4 => q2 .non H' q4.ex Dp.non⟩
    · cases e
  · cases e
end Nm
namespace Nm
open PySem L2
section
variable {c : C0} {pos : Pos} {a b e o : Expr} {fa fb f : Rho → Option W} {x y : Str} {px py p apos : Pos} {i j : Nat} {es : List Expr} {fs : Rho → Option (List W)}
/-! ### instances -/
/-- e.f -/
def cAtt (T : Tab) (cf : Str) (f : Rho → Option W) : Rho → Option W := fun r => match f r with
  | some (.o k ds) => if k < T.nc then match ((T.cf k).zip ds).lookup cf with
      | some d => some (.d d)
      | none => none
    else none
  | _ => none
theorem zip_look {K : PySem.W.Frag} {H : Hp} {n : Str} {d : PyData} : ∀ (ns : List Str) (ds : List PyData) (vs : List V), DpAll K H vs ds → (ns.zip ds).lookup n = some d → ∃ v, (ns.zip vs).lookup n = some v ∧ Dp K H v d ∧ n ∈ ns
  | [], _, _, _, e => by simp at e
  | m :: ns, [], _, h, e => by simp at e
  | m :: ns, z :: ds, _, h, e => by
    cases h with
    | cons h1 h2 =>
      rename_i v vs
      rw [List.zip_cons_cons, List.lookup_cons] at e ⊢
      cases q : (n == m) with
      | true =>
        rw [q] at e
        cases e
        exact ⟨v, rfl, h1, by rw [beq_iff_eq.mp q]; exact List.mem_cons_self⟩
      | false =>
        rw [q] at e
        obtain ⟨u, h3, h4, h5⟩ := zip_look ns ds vs h2 e
        exact ⟨u, h3, h4, List.mem_cons_of_mem _ h5⟩
theorem ok_att (cf : Str) (he : OkE c e f) (hb : ∀ env, attributeBase e cf env (eval e env) = eval e env := by intro _; rfl) : OkE c (.Attribute e cf pos) (cAtt c.T cf f) := fun X gd r w k => by
  unfold cAtt at k
  split at k
  · rename_i n ds e1
    split at k
    · rename_i hn
      split at k
      · rename_i d e2
        cases k
        obtain ⟨C, h1, h2, h3, h4, h5⟩ := (gd.clo n hn).ex
        refine pe_imp (pe_fld (he X gd r _ e1) (hb X.env)) fun s H Q q => ⟨q.1, fun v H1 s1 hv => ?_⟩
        obtain ⟨ad, C', dx, vs, rfl, g1, g2, g3, g4⟩ := hv
        rw [h1] at g1
        cases g1
        obtain ⟨v, l1, l2, l3⟩ := zip_look _ _ _ g4 e2
        exact ⟨ad, C, dx, _, v, rfl, g2, h2, h3 cf l3, l1, q.2 v H1 s1 l2⟩
      · cases k
    · cases k
  · cases k
def wAtt (T : Tab) (cf : Str) : W → Option W
  | .o k ds => if k < T.nc then match ((T.cf k).zip ds).lookup cf with
      | some d => some (.d d)
      | none => none
    else none
  | _ => none
theorem cAtt_eq (T : Tab) (cf : Str) (f : Rho → Option W) (r : Rho) : cAtt T cf f r = match f r with
  | some x => wAtt T cf x
  | none => none := by
  unfold cAtt
  cases f r with
  | none => rfl
  | some x => cases x <;> rfl
/-- C(e, ..) -/
def cMake (T : Tab) (k n : Nat) (f : Rho → Option (List W)) : Rho → Option W := fun r => match f r with
  | some ws => match wDs ws with
    | some ds => if 2 ≤ k ∧ n < T.nc ∧ ds.length = (T.cf n).length ∧ T.cf n ≠ [] then some (.o n ds) else none
    | none => none
  | none => none
def wMake (T : Tab) (k n : Nat) (ws : List W) : Option W := match wDs ws with
    | some ds => if 2 ≤ k ∧ n < T.nc ∧ ds.length = (T.cf n).length ∧ T.cf n ≠ [] then some (.o n ds) else none
    | none => none
theorem cMake_eq (T : Tab) (k n : Nat) (f : Rho → Option (List W)) (r : Rho) : cMake T k n f r = match f r with
  | some ws => wMake T k n ws
  | none => none := rfl
theorem ok_make (n : Nat) (hx : c.T.cn n = x) (hk : c.sc.names.lookup x = some .globalImplicit) (ha : OkA c (e :: es) fs) (hd : (x == ("__debug__" : Str)) = false := by decide)
    (he : ∀ env, starEach (e :: es) env = (false, eval e env) :: starEach es env := by intro _; rfl) (hpl : ∀ env, (backTo pos (starEach es env)).any (·.1) = false := by intro _; rfl) :
    OkE c (.Call (.Name x p) (e :: es) [] pos) (cMake c.T c.k n fs) := fun X gd r w k => by
  unfold cMake at k
  split at k
  · rename_i ws e1
    split at k
    · rename_i ds e2
      split at k
      · rename_i hc
        obtain ⟨k2, hn, hl, hne⟩ := hc
        cases k
        obtain ⟨C, h1, h2, h3, h4, h5⟩ := (gd.clo n hn).ex
        obtain ⟨fI, fd, ps, m1, m2, m3, m4⟩ := h5 hne
        rw [hx] at h1
        refine pe_imp (pe_make m1 m4 (gd.room.mono k2) ((gd.kind x).trans hk) h1 m2 .nil pass0 (ha X gd r ws e1) hd (he _) (hpl _)) fun s H Q q => ⟨q.1, fun vs H1 s1 hv => ?_⟩
        intro z dx hz hdx hne2
        show spInit C (c.T.cf n) (.ref z :: (vs ++ [])) _ _ _
        rw [List.append_nil]
        have hD := wDs_all e2 hv
        have hlen : vs.length = (c.T.cf n).length := by rw [dpa_len _ _ hD]; exact hl
        refine ⟨z, dx, vs, rfl, hlen, upd_same, rfl, ?_⟩
        have sm : Same H1 (upd (upd (upd H1 dx (.own z)) z (.ins C dx [])) z (.ins C dx ((c.T.cf n).zip vs))) := by
          rw [upd_upd]
          exact (same_new hdx _).trans (same_new (by rw [upd_ne (Ne.symm hne2)]; exact hz) _)
        refine q.2 _ _ (s1.trans sm) ⟨z, C, dx, vs, rfl, by rw [hx]; exact h1, upd_same, hlen, dpa_mono sm _ _ hD⟩
      · cases k
    · cases k
  · cases k
/-- o.m(e, ..): i the method's number -/
def cMeth (F : Fs) (i n : Nat) (f : Rho → Option W) (g : Rho → Option (List W)) : Rho → Option W := fun r => match f r with
  | some (.o k ds) => if k = n then match g r with
      | some ws => match F i (.o k ds :: ws) with
        | some z => some z.val
        | none => none
      | none => none
    else none
  | _ => none
theorem look_none : ∀ (ns : List Str) (vs : List V) (m : Str), m ∉ ns → (ns.zip vs).lookup m = none
  | [], _, _, _ => by simp
  | n :: ns, [], _, _ => by simp
  | n :: ns, v :: vs, m, h => by
    rw [List.zip_cons_cons, List.lookup_cons]
    have q : (m == n) = false := beq_eq_false_iff_ne.mpr fun z => h (by rw [z]; exact List.mem_cons_self)
    rw [q]
    exact look_none ns vs m fun z => h (List.mem_cons_of_mem _ z)
theorem ok_meth {pl : Env → Sem Bool} (i n : Nat) (m : Str) (hm : c.T.mo i = some (n, m)) (hn : n < c.T.nc) (hnf : m ∉ c.T.cf n) (ho : OkE c o f) (ha : OkA c (e :: es) fs)
    (he : ∀ env, starEach (e :: es) env = (false, eval e env) :: starEach es env := by intro _; rfl) (hpl : ∀ env, (backTo pos (starEach es env)).any (·.1) = false := by intro _; rfl)
    (ht : ∀ env, eval (.Call (.Attribute o m apos) (e :: es) [] pos) env = (do
      let ov ← eval o env
      standAt apos.atName
      let (f, first) ← holding [ov] (getMethod ov m (pl env))
      callWith pos f first (backTo pos (starEach (e :: es) env)) (backToKw pos (keywordEach [] env))) := by intro _; rfl) :
    OkE c (.Call (.Attribute o m apos) (e :: es) [] pos) (cMeth c.F i n f fs) := fun X gd r w k => by
  unfold cMeth at k
  split at k
  · rename_i kk ds e1
    split at k
    · rename_i hk
      subst hk
      split at k
      · rename_i ws e2
        split at k
        · rename_i z e3
          cases k
          obtain ⟨f, fd, h3, h4, _, h5⟩ := (gd.cal i _ z e3).ex
          obtain ⟨C, g1, g2⟩ := h5 kk m hm
          obtain ⟨C', h1, h2, _⟩ := (gd.clo kk hn).ex
          rw [g1] at h1
          cases h1
          refine pe_imp (pe_meth (pl := pl X.env) (ho X gd r _ e1) h2 g2 h4 gd.room h3 .nil pass0 (ha X gd r ws e2) (he _) (hpl _) (ht _)) fun s H Q q => ⟨q.1, fun v H1 s1 hv => ?_⟩
          have hv0 := hv
          obtain ⟨ad, C', dx, vs, rfl, g1', g2', g3, g4⟩ := hv
          rw [g1] at g1'
          cases g1'
          refine ⟨ad, dx, _, rfl, g2', look_none _ _ _ hnf, rv_mono s1 q.1, fun vs2 H2 s2 hv2 => ?_⟩
          show spR c.T X.K X.mg (.o kk ds :: ws) z (.ref ad :: (vs2 ++ [])) H2 Q E0
          rw [List.append_nil]
          refine ⟨.cons (rw_mono s2 hv0) hv2, ?_⟩
          cases z with
          | w x => exact fun v H3 s3 hv3 => q.2 v H3 (s1.trans (s2.trans s3)) hv3
          | fl xs => exact fun p vs' H3 hp s3 h3 hd3 => q.2 _ H3 (s1.trans (s2.trans s3)) (Dp.lst (SqL.of h3) hd3)
        · cases k
      · cases k
    · cases k
  · cases k
/-- isinstance(x, C), x an instance -/
def wIsiC (T : Tab) (n : Nat) : W → Option W
  | .o k _ => if k < T.nc then some (.d (.bool (T.sub k n))) else none
  | _ => none
theorem ok_isiC {p2 : Pos} (n : Nat) (hy : c.T.cn n = y) (hb : ("isinstance" : Str) ∈ c.T.bl) (hk : c.sc.names.lookup ("isinstance" : Str) = some .globalImplicit) (hk2 : c.sc.names.lookup y = some .globalImplicit)
    (ha : OkE c e f) (hs : ∀ env (e2 : Expr), starEach (e :: [Expr.Name y p2]) env = (false, eval e env) :: [(false, eval (Expr.Name y p2) env)] := by intro _ _; rfl)
    (hkit : ∀ X, Gd c X → ∀ k C D, k < c.T.nc → X.mg (c.T.cn k) = some (.ref C) → X.mg y = some (.ref D) → PySem.W.kitOne X.K (.ref C) (.ref D) = some (c.T.sub k n))
    (hg : ∀ X, Gd c X → ∃ D, X.mg y = some (.ref D)) (hd : (y == ("__debug__" : Str)) = false := by decide) :
    OkE c (.Call (.Name "isinstance" p) [e, .Name y p2] [] pos) (cOp1 (wIsiC c.T n) f) := fun X gd r w h => by
  obtain ⟨x, e1, e2⟩ := cOp1_some h
  obtain ⟨D, hD⟩ := hg X gd
  have hn : PE X (.Name y p2) (tC (.ref D)) := pe_glob ((gd.kind _).trans hk2) hD rfl hd
  refine pe_imp (pe_callB call_isi ((gd.kind _).trans hk) (gd.tab.bl _ hb) boot_isi (pa_cons (ha X gd r x e1) (pa_cons hn pa_nil) (hs X.env e)) (he := hs X.env e)) fun s H Q q => ⟨q.1, fun v H1 s1 hv => ?_⟩
  unfold wIsiC at e2
  split at e2
  · rename_i k ds
    split at e2
    · rename_i hk'
      cases e2
      obtain ⟨C, h1, h2, h3, h4, h5⟩ := (gd.clo k hk').ex
      obtain ⟨ad, C', dx, vs, rfl, g1, g2, g3, g4⟩ := hv
      rw [h1] at g1
      cases g1
      exact ⟨.ref ad, .ref D, .ref C, .ref D, _, rfl, .own D, .base (.ins g2 h2 h4.ha h4.hn h4.ht h4.hm), hkit X gd k C D hk' h1 hD, q.2 _ H1 s1 (Dp.bl _)⟩
    · cases e2
  · cases e2
end
/-! ### __init__ of one field, of two -/
section
variable {P : Program} {w : World} {K : PySem.W.Frag} {mg : Str → Option Value} {base : Heap} {qual : Str} {st : Stmt} {f C : Addr} {fd : FuncData} {x y f1 f2 : Str} {p1 p2 p3 p4 q1 q2 q3 q4 : Pos}
theorem init_one (FN : Fun K "__init__" qual st f fd) (S : FnScope ["self", x] ["self", x] (defScope st)) (hb : defBody st = [.Assign [.Attribute (.Name "self" p1) f1 p2] (.Name x p3) p4]) (cl : Cls K C) (na : NoAttr K C f1)
    (hv0 : Vis (defScope st) "self") (hv : Vis (defScope st) x) (hd : (x == ("__debug__" : Str)) = false := by decide) (hcd : (x == ("__classdict__" : Str)) = false := by decide) : FnOk P w K mg base CX0 1 f fd ["self", x] (spInit C [f1]) := by
  refine FN.ok S (fun vs H Q E q => ?_) (fun cdv A outer s H vs Q E hr q => ?_)
  · obtain ⟨z, dx, ws, rfl, hl, _⟩ := q
    simp at hl ⊢
    exact hl
  · obtain ⟨z, dx, ws, rfl, hl, hz, q⟩ := q
    rw [hb]
    refine ⟨_, pss_one (ps_fld (pe_var (i := 0) rfl hv0) (pe_var (i := 1) rfl hv hd hcd) rfl), ?_⟩
    match ws, hl with
    | [v], _ => exact ⟨v, rfl, .ref z, rfl, z, C, dx, _, rfl, hz, cl, na, by decide, q⟩
theorem init_two (FN : Fun K "__init__" qual st f fd) (S : FnScope ["self", x, y] ["self", x, y] (defScope st)) (hb : defBody st = [.Assign [.Attribute (.Name "self" p1) f1 p2] (.Name x p3) p4, .Assign [.Attribute (.Name "self" q1) f2 q2] (.Name y q3) q4]) (cl : Cls K C) (na : NoAttr K C f1) (na2 : NoAttr K C f2) (hne : f1 ≠ f2)
    (hv0 : Vis (defScope st) "self") (hv : Vis (defScope st) x) (hv2 : Vis (defScope st) y) (hd : (x == ("__debug__" : Str)) = false := by decide) (hcd : (x == ("__classdict__" : Str)) = false := by decide) (hd2 : (y == ("__debug__" : Str)) = false := by decide) (hcd2 : (y == ("__classdict__" : Str)) = false := by decide) : FnOk P w K mg base CX0 1 f fd ["self", x, y] (spInit C [f1, f2]) := by
  refine FN.ok S (fun vs H Q E q => ?_) (fun cdv A outer s H vs Q E hr q => ?_)
  · obtain ⟨z, dx, ws, rfl, hl, _⟩ := q
    simp at hl ⊢
    exact hl
  · obtain ⟨z, dx, ws, rfl, hl, hz, q⟩ := q
    rw [hb]
    refine ⟨_, pss_cons (ps_fld (pe_var (i := 0) rfl hv0) (pe_var (i := 1) rfl hv hd hcd) rfl) (pss_one (ps_fld (pe_var (i := 0) rfl hv0) (pe_var (i := 2) rfl hv2 hd2 hcd2) rfl)), ?_⟩
    match ws, hl with
    | [v, u], _ =>
      refine ⟨v, rfl, .ref z, rfl, z, C, dx, _, rfl, hz, cl, na, by decide, u, rfl, .ref z, rfl, z, C, dx, _, rfl, upd_same, cl, na2, (by show (1 : Nat) < 1000; decide), ?_⟩
      rw [upd_upd]
      have e : putF f2 u (putF f1 v []) = [f1, f2].zip [v, u] := by
        show (if f1 = f2 then [(f1, u)] else (f1, v) :: putF f2 u []) = _
        rw [if_neg hne]
        rfl
      rw [e]
      exact q
end
end Nm
namespace Nm
open PySem L2
/-! ### what the top has written -/
def DefAt (K : PySem.W.Frag) (x qual : Str) (st : Stmt) (ps : List Str) : Prop := ∃ f fd, PySem.W.nsIn K mainGlobals x = some (some (.ref f)) ∧ Fun K x qual st f fd ∧ ∀ us : List Value, us.length = ps.length → bindArgs fd ⟨us, []⟩ = pure (ps.zip us)
def BindOk (x qual : Str) (st : Stmt) (ps : List Str) : Prop := ∀ (kV doc pm : Value) (an : Option Addr) (cdv ct : Value) (us : List Value), us.length = ps.length → bindArgs (PySem.W.fnOf x qual (defArgs st) (defBody st) (defScope st) .none kV doc pm an cdv ct) ⟨us, []⟩ = pure (ps.zip us)
theorem defAt_mk {K : PySem.W.Frag} {x qual : Str} {st : Stmt} {ps : List Str} {f : Addr} {oc kV dc pm cd ct : Value} {od an : Option Addr} {sl : Array (Option Value)} (hb : BindOk x qual st ps)
    (a : PySem.W.nsIn K mainGlobals x = some (some (.ref f))) (l : K.lookup f = some ⟨oc, od, .func (PySem.W.fnOf x qual (defArgs st) (defBody st) (defScope st) .none kV dc pm an cd ct), sl⟩) (c : PySem.W.codeIn K cd qual = true) (k : PySem.W.keepIn K (.ref f) = true) : DefAt K x qual st ps :=
  ⟨f, _, a, fun_mk l c k, fun us h => hb kV dc pm an cd ct us h⟩
def MetAt (K : PySem.W.Frag) (cn m qual : Str) (st : Stmt) (ps : List Str) : Prop := ∃ C f fd, PySem.W.nsIn K mainGlobals cn = some (some (.ref C)) ∧ Meth K C m f ∧ Fun K m qual st f fd ∧ ∀ us : List Value, us.length = ps.length → bindArgs fd ⟨us, []⟩ = pure (ps.zip us)
theorem metAt_mk {K : PySem.W.Frag} {cn m qual : Str} {st : Stmt} {ps : List Str} {C f : Addr} {oc kV dc pm cd ct : Value} {od an : Option Addr} {sl : Array (Option Value)} (hb : BindOk m qual st ps)
    (aC : PySem.W.nsIn K mainGlobals cn = some (some (.ref C))) (a : PySem.W.findIn K (.ref C) m = some (some (.ref f))) (i : PySem.W.isFn K (.ref f) = true) (l : K.lookup f = some ⟨oc, od, .func (PySem.W.fnOf m qual (defArgs st) (defBody st) (defScope st) .none kV dc pm an cd ct), sl⟩) (c : PySem.W.codeIn K cd qual = true) (k : PySem.W.keepIn K (.ref f) = true) : MetAt K cn m qual st ps :=
  ⟨C, f, _, aC, ⟨a, i, k⟩, fun_mk l c k, fun us h => hb kV dc pm an cd ct us h⟩
structure ClsAt (K : PySem.W.Frag) (C : Addr) (cn : Str) (fs : List Str) : Prop where
  aC : PySem.W.nsIn K mainGlobals cn = some (some (.ref C))
  cl : Cls K C
  na : ∀ f ∈ fs, NoAttr K C f
  ty : InsTy K C
theorem clsAt_mk {K : PySem.W.Frag} {C : Addr} {cn : Str} {fs : List Str} (aC : PySem.W.nsIn K mainGlobals cn = some (some (.ref C)))
    (pg : PySem.W.plainGet K C Str.empty = true) (hd : PySem.W.hasDictIn K C = true) (po : PySem.W.plainOver K C = true) (sa : PySem.W.findIn K (.ref C) "__setattr__" = some (some (.builtin "object.__setattr__")))
    (ha : PySem.W.findIn K (.ref C) "__class__" = some (some (.builtin "object.__class__"))) (hn : PySem.W.specialIn K (.builtin "object.__class__") "__get__" = some (some (.builtin "getset_descriptor.__get__")))
    (ht : PySem.W.takesIn K (.builtin "object.__class__") = some true) (hm : PySem.W.mroIn K C (.type "object") = some true) (na : ∀ f ∈ fs, NoAttr K C f) : ClsAt K C cn fs := ⟨aC, ⟨pg, hd, po, sa⟩, na, ⟨ha, hn, ht, hm⟩⟩
theorem na_one {K : PySem.W.Frag} {C : Addr} {f : Str} (h : PySem.W.findIn K (.ref C) f = some none) : ∀ g ∈ [f], NoAttr K C g := fun g hg => by
  rw [List.mem_singleton.mp hg]
  exact h
theorem na_two {K : PySem.W.Frag} {C : Addr} {f f2 : Str} (h : PySem.W.findIn K (.ref C) f = some none) (h2 : PySem.W.findIn K (.ref C) f2 = some none) : ∀ g ∈ [f, f2], NoAttr K C g := fun g hg => by
  rcases List.mem_cons.mp hg with e | e
  · rw [e]; exact h
  · rw [List.mem_singleton.mp e]; exact h2
theorem na_none {K : PySem.W.Frag} {C : Addr} : ∀ g ∈ ([] : List Str), NoAttr K C g := fun g hg => nomatch hg
/-- a class whose __init__ is st -/
def IniAt (K : PySem.W.Frag) (C : Addr) (qual : Str) (st : Stmt) (ps : List Str) : Prop := ∃ f fd, Mk K C f ∧ Fun K "__init__" qual st f fd ∧ ∀ us : List Value, us.length = ps.length → bindArgs fd ⟨us, []⟩ = pure (ps.zip us)
theorem iniAt_mk {K : PySem.W.Frag} {C : Addr} {qual : Str} {st : Stmt} {ps : List Str} {f : Addr} {oc kV dc pm cd ct : Value} {od an : Option Addr} {sl : Array (Option Value)} (hb : BindOk "__init__" qual st ps)
    (mk : PySem.W.makesIn K C = true) (a : PySem.W.findIn K (.ref C) "__init__" = some (some (.ref f))) (i : PySem.W.isFn K (.ref f) = true) (kc : PySem.W.keepIn K (.ref C) = true) (l : K.lookup f = some ⟨oc, od, .func (PySem.W.fnOf "__init__" qual (defArgs st) (defBody st) (defScope st) .none kV dc pm an cd ct), sl⟩) (c : PySem.W.codeIn K cd qual = true) (k : PySem.W.keepIn K (.ref f) = true) : IniAt K C qual st ps :=
  ⟨f, _, ⟨mk, a, i, kc⟩, fun_mk l c k, fun us h => hb kV dc pm an cd ct us h⟩
section
variable {T : Tab} {P : Program} {w : World} {K : PySem.W.Frag} {mg : Str → Option Value} {base h : Heap} {F : Fs} {k : Nat} {x qual : Str} {st : Stmt} {N ps : List Str} {g : CS} {args : List W} {r : Res} {i : Nat}
theorem cal_def (X : K.In h) (G : h.Ns mainGlobals mg) (D : DefAt K x qual st ps) (S : FnScope N ps (defScope st)) (tab : TabOk T mg) (cal : ∀ i args r, F i args = some r → Calb T P w K mg base k i args r)
    (clo : ∀ i, i < T.nc → ClOk T P w K mg base i) (o : OkSs ⟨T, N, F, k, defScope st⟩ (defBody st) g) (e : runD N ps.length g args = some r) (hp : T.ps i = ps) (hx : T.fn i = x) (hm : T.mo i = none) : Calb T P w K mg base (k + 1) i args r := by
  obtain ⟨f, fd, a, FN, b⟩ := D
  refine ⟨f, fd, by rw [hp]; exact .all b, by rw [hp]; exact def_ok FN S tab cal clo o e, fun _ => ⟨by rw [hx]; exact PySem.W.mg_of X G a, FN.kp⟩, fun cid m q => ?_⟩
  rw [hm] at q
  cases q
theorem cal_met {cn m : Str} {n : Nat} (X : K.In h) (G : h.Ns mainGlobals mg) (D : MetAt K cn m qual st ps) (S : FnScope N ps (defScope st)) (tab : TabOk T mg) (cal : ∀ i args r, F i args = some r → Calb T P w K mg base k i args r)
    (clo : ∀ i, i < T.nc → ClOk T P w K mg base i) (o : OkSs ⟨T, N, F, k, defScope st⟩ (defBody st) g) (e : runD N ps.length g args = some r) (hp : T.ps i = ps) (hm : T.mo i = some (n, m)) (hc : T.cn n = cn) : Calb T P w K mg base (k + 1) i args r := by
  obtain ⟨C, f, fd, aC, M, FN, b⟩ := D
  refine ⟨f, fd, by rw [hp]; exact .all b, by rw [hp]; exact def_ok FN S tab cal clo o e, fun q => ?_, fun cid m' q => ?_⟩
  · rw [hm] at q; cases q
  · rw [hm] at q
    cases q
    exact ⟨C, by rw [hc]; exact PySem.W.mg_of X G aC, M⟩
theorem clo_none {n : Nat} {C : Addr} {cn : Str} (X : K.In h) (G : h.Ns mainGlobals mg) (A : ClsAt K C cn []) (hc : T.cn n = cn) (hf : T.cf n = []) : ClOk T P w K mg base n :=
  ⟨C, by rw [hc]; exact PySem.W.mg_of X G A.aC, A.cl, by rw [hf]; exact A.na, A.ty, fun q => absurd hf q⟩
theorem clo_one {n : Nat} {C : Addr} {cn f1 y : Str} {p1 p2 p3 p4 : Pos} (X : K.In h) (G : h.Ns mainGlobals mg) (A : ClsAt K C cn [f1]) (I : IniAt K C qual st ["self", y]) (S : FnScope ["self", y] ["self", y] (defScope st)) (hb : defBody st = [.Assign [.Attribute (.Name "self" p1) f1 p2] (.Name y p3) p4])
    (hv0 : Vis (defScope st) "self") (hv : Vis (defScope st) y) (hc : T.cn n = cn) (hf : T.cf n = [f1]) (hd : (y == ("__debug__" : Str)) = false := by decide) (hcd : (y == ("__classdict__" : Str)) = false := by decide) : ClOk T P w K mg base n := by
  obtain ⟨f, fd, M, FN, b⟩ := I
  exact ⟨C, by rw [hc]; exact PySem.W.mg_of X G A.aC, A.cl, by rw [hf]; exact A.na, A.ty, fun _ => ⟨f, fd, ["self", y], M, .all b, by rw [hf]; rfl, by rw [hf]; exact init_one FN S hb A.cl (A.na _ List.mem_cons_self) hv0 hv hd hcd⟩⟩
theorem clo_two {n : Nat} {C : Addr} {cn f1 f2 y z : Str} {p1 p2 p3 p4 q1 q2 q3 q4 : Pos} (X : K.In h) (G : h.Ns mainGlobals mg) (A : ClsAt K C cn [f1, f2]) (I : IniAt K C qual st ["self", y, z]) (S : FnScope ["self", y, z] ["self", y, z] (defScope st)) (hb : defBody st = [.Assign [.Attribute (.Name "self" p1) f1 p2] (.Name y p3) p4, .Assign [.Attribute (.Name "self" q1) f2 q2] (.Name z q3) q4])
    (hne : f1 ≠ f2) (hv0 : Vis (defScope st) "self") (hv : Vis (defScope st) y) (hv2 : Vis (defScope st) z) (hc : T.cn n = cn) (hf : T.cf n = [f1, f2]) (hd : (y == ("__debug__" : Str)) = false := by decide) (hcd : (y == ("__classdict__" : Str)) = false := by decide) (hd2 : (z == ("__debug__" : Str)) = false := by decide) (hcd2 : (z == ("__classdict__" : Str)) = false := by decide) : ClOk T P w K mg base n := by
  obtain ⟨f, fd, M, FN, b⟩ := I
  exact ⟨C, by rw [hc]; exact PySem.W.mg_of X G A.aC, A.cl, by rw [hf]; exact A.na, A.ty, fun _ => ⟨f, fd, ["self", y, z], M, .all b, by rw [hf]; rfl, by rw [hf]; exact init_two FN S hb A.cl (A.na _ List.mem_cons_self) (A.na _ (List.mem_cons_of_mem _ List.mem_cons_self)) hne hv0 hv hv2 hd hcd hd2 hcd2⟩⟩
end
/-! ### the law -/
def spLaw (K : PySem.W.Frag) : Sp := fun vs H Q _ => ∃ (a : Addr) (ns : List Int), vs = [.ref a] ∧ SqL K H a (ns.map V.int) ∧ ns.length ≤ 63 ∧ (∀ z ∈ ns, Builtin.Int.intBits z ≤ 1048576) ∧ ∀ H', Q (.bl true) H'
theorem dpa_ints {K : PySem.W.Frag} {H : Hp} : ∀ ns : List Int, DpAll K H (ns.map V.int) (ns.map PyData.int)
  | [] => .nil
  | n :: r => .cons (.int n) (dpa_ints r)
def inp (ns : List Int) : List W := [.d (.list (ns.map .int))]
def yes : Res := .w (.d (.bool true))
theorem law_fn {T : Tab} {P : Program} {w : World} {K : PySem.W.Frag} {mg : Str → Option Value} {h : Heap} {F : Fs} {k : Nat} {x : Str} {st : Stmt} {y : Str} {fa : Addr} {N : List Str} {g : CS} (X : K.In h) (G : h.Ns mainGlobals mg) (hfa : mg x = some (.ref fa)) (D : DefAt K x x st [y])
    (S : FnScope N [y] (defScope st)) (tab : TabOk T mg) (cal : ∀ base : Heap, ∀ i args r, F i args = some r → Calb T P w K mg base k i args r) (clo : ∀ base : Heap, ∀ i, i < T.nc → ClOk T P w K mg base i) (o : OkSs ⟨T, N, F, k, defScope st⟩ (defBody st) g)
    (main : ∀ ns : List Int, ns.length ≤ 63 → (∀ z ∈ ns, Builtin.Int.intBits z ≤ 1048576) → runD N 1 g (inp ns) = some yes) :
    ∃ fd : FuncData, (∀ (s : Shared) (u : Value), BindsTo s fd ⟨[u], []⟩ [(y, u)]) ∧ ∀ base : Heap, K.In base → base.Ns mainGlobals mg → FnOk P w K mg base CX0 (k + 1) fa fd [y] (spLaw K) := by
  obtain ⟨f, fd, a, FN, b⟩ := D
  have e := PySem.W.mg_of X G a
  rw [hfa] at e
  cases e
  refine ⟨fd, fun s u => .of_eq (b [u] rfl), fun base _ _ => ⟨fun vs H Q E q => ?_, fun A outer s H args us vs Q E hr e0 hb hv q => ?_⟩⟩
  · obtain ⟨a, ns, rfl, _⟩ := q
    rfl
  · obtain ⟨a, ns, rfl, hS, h63, hbits, q⟩ := q
    have FO := def_ok (ps := [y]) FN S tab (cal base) (clo base) o (main ns h63 hbits)
    refine FO.run A outer s H args us _ Q E hr e0 hb hv ⟨.cons (Dp.lst hS (dpa_ints ns)) .nil, fun v H' s1 hv => ?_⟩
    have hv : Dp K H' v (.bool true) := hv
    cases hv
    exact q H'
end Nm
namespace Nm
open PySem L2
/-! ### terms -/
inductive Mkr where
  | B | C | I | K | S
  deriving DecidableEq
def Mkr.s : Mkr → Str
  | .B => "B"
  | .C => "C"
  | .I => "I"
  | .K => "K"
  | .S => "S"
def Mkr.c : Mkr → Nat
  | .B => 66
  | .C => 67
  | .I => 73
  | .K => 75
  | .S => 83
inductive Tm where
  | nm (n : Int)
  | mk (m : Mkr)
  | ap (a b : Tm)
  | fn (b : Tm)
  deriving DecidableEq
def Tm.d : Tm → PyData
  | .nm n => .int n
  | .mk m => .str m.s
  | .ap a b => .tuple [a.d, b.d]
  | .fn b => .tuple [.str "fn", b.d]
def Tm.dep : Tm → Nat
  | .nm _ => 0
  | .mk _ => 0
  | .ap a b => max a.dep b.dep + 1
  | .fn b => b.dep + 1
theorem imm_d : ∀ t : Tm, imm t.d = true
  | .nm n => by simp only [Tm.d, imm]
  | .mk m => by simp only [Tm.d, imm]
  | .ap a b => by simp only [Tm.d, imm, imms, imm_d a, imm_d b]; rfl
  | .fn b => by simp only [Tm.d, imm, imms, imm_d b]; rfl
theorem lay_mk (m : Mkr) : (PyData.str m.s).canLay0 = true := by cases m <;> decide +kernel
theorem lay_fn : (PyData.str "fn").canLay0 = true := by decide +kernel
theorem lay_d : ∀ t : Tm, t.d.canLay0 = true
  | .nm n => by simp only [Tm.d, PyData.canLay0]
  | .mk m => lay_mk m
  | .ap a b => by simp only [Tm.d, PyData.canLay0, PyData.canLayAll0, lay_d a, lay_d b]; rfl
  | .fn b => by
    have h := lay_fn
    simp only [Tm.d, PyData.canLay0, PyData.canLayAll0, lay_d b] at h ⊢
    rw [h]; rfl
theorem dep_d : ∀ t : Tm, t.d.depth = t.dep
  | .nm n => by simp only [Tm.d, PyData.depth, Tm.dep]
  | .mk m => by simp only [Tm.d, PyData.depth, Tm.dep]
  | .ap a b => by simp only [Tm.d, PyData.depth, PyData.depthAll, Tm.dep, dep_d a, dep_d b]; omega
  | .fn b => by simp only [Tm.d, PyData.depth, PyData.depthAll, Tm.dep, dep_d b]; omega
theorem mk_ne_fn (m : Mkr) : (m.s == ("fn" : Str)) = false := by cases m <;> decide +kernel
theorem fn_ne_mk (m : Mkr) : (("fn" : Str) == m.s) = false := by cases m <;> decide +kernel
theorem mk_eq (m n : Mkr) : (m.s == n.s) = decide (m = n) := by cases m <;> cases n <;> decide +kernel
theorem eqv_fn (t : Tm) : PyData.eqv (.str "fn") t.d = false := by
  cases t with
  | mk m => simp only [Tm.d, PyData.eqv]; exact fn_ne_mk m
  | _ => simp only [Tm.d, PyData.eqv]
theorem eqv_fn2 (t : Tm) : PyData.eqv t.d (.str "fn") = false := by
  cases t with
  | mk m => simp only [Tm.d, PyData.eqv]; exact mk_ne_fn m
  | _ => simp only [Tm.d, PyData.eqv]
theorem fn_self : PyData.eqv (.str "fn") (.str "fn") = true := by decide +kernel
theorem eqv_pair (a b c e : PyData) : PyData.eqv (.tuple [a, b]) (.tuple [c, e]) = (PyData.eqv a c && PyData.eqv b e) := by
  have h : PyData.eqv (.tuple [a, b]) (.tuple [c, e]) = (PyData.eqv a c && (PyData.eqv b e && true)) := by rw [PyData.eqv.eq_8, PyData.eqvAll.eq_2, PyData.eqvAll.eq_2, PyData.eqvAll.eq_1]
  rw [h, Bool.and_true]
theorem eqv_d : ∀ t u : Tm, PyData.eqv t.d u.d = decide (t = u)
  | .nm m, .nm n => by simp only [Tm.d, PyData.eqv, Tm.nm.injEq]; exact Bool.beq_eq_decide_eq m n
  | .nm m, .mk n => by simp [Tm.d, PyData.eqv]
  | .nm m, .ap a b => by simp [Tm.d, PyData.eqv]
  | .nm m, .fn b => by simp [Tm.d, PyData.eqv]
  | .mk m, .nm n => by simp [Tm.d, PyData.eqv]
  | .mk m, .mk n => by simp only [Tm.d, PyData.eqv, Tm.mk.injEq]; exact mk_eq m n
  | .mk m, .ap a b => by simp [Tm.d, PyData.eqv]
  | .mk m, .fn b => by simp [Tm.d, PyData.eqv]
  | .ap a b, .nm n => by simp [Tm.d, PyData.eqv]
  | .ap a b, .mk n => by simp [Tm.d, PyData.eqv]
  | .ap a b, .ap c e => by
    show PyData.eqv (.tuple [a.d, b.d]) (.tuple [c.d, e.d]) = _
    rw [eqv_pair, eqv_d a c, eqv_d b e]
    by_cases h1 : a = c <;> by_cases h2 : b = e <;> simp [h1, h2]
  | .ap a b, .fn e => by
    show PyData.eqv (.tuple [a.d, b.d]) (.tuple [.str "fn", e.d]) = _
    rw [eqv_pair, eqv_fn2 a]
    simp
  | .fn b, .nm n => by simp [Tm.d, PyData.eqv]
  | .fn b, .mk n => by simp [Tm.d, PyData.eqv]
  | .fn b, .ap c e => by
    show PyData.eqv (.tuple [.str "fn", b.d]) (.tuple [c.d, e.d]) = _
    rw [eqv_pair, eqv_fn c]
    simp
  | .fn b, .fn e => by
    show PyData.eqv (.tuple [.str "fn", b.d]) (.tuple [.str "fn", e.d]) = _
    rw [eqv_pair, fn_self, eqv_d b e]
    simp
theorem eqD_d (t u : Tm) : eqD t.d u.d = decide (t = u) := by rw [← eqD_eqv]; exact eqv_d t u
theorem eqD_fn (t : Tm) : eqD t.d (.str "fn") = false := by rw [← eqD_eqv]; exact eqv_fn2 t
theorem eqOk_d {k : Nat} {t u : Tm} (h : min t.dep u.dep ≤ 199 + 16 * k) : eqOk k t.d u.d = true := by
  have l1 := lay_d t
  have e1 := dep_d t
  have l2 := lay_d u
  have e2 := dep_d u
  cases t with
  | nm n => cases u <;> rfl
  | mk m => cases u <;> rfl
  | ap a b =>
    cases u with
    | nm n => rfl
    | mk m => rfl
    | ap c e =>
      simp only [Tm.d, PyData.canLay0] at l1 l2
      simp only [Tm.d] at e1 e2 ⊢
      simp only [eqOk, l1, l2, Bool.and_true, Bool.true_and, e1, e2]
      exact decide_eq_true h
    | fn e =>
      simp only [Tm.d, PyData.canLay0] at l1 l2
      simp only [Tm.d] at e1 e2 ⊢
      simp only [eqOk, l1, l2, Bool.and_true, Bool.true_and, e1, e2]
      exact decide_eq_true h
  | fn b =>
    cases u with
    | nm n => rfl
    | mk m => rfl
    | ap c e =>
      simp only [Tm.d, PyData.canLay0] at l1 l2
      simp only [Tm.d] at e1 e2 ⊢
      simp only [eqOk, l1, l2, Bool.and_true, Bool.true_and, e1, e2]
      exact decide_eq_true h
    | fn e =>
      simp only [Tm.d, PyData.canLay0] at l1 l2
      simp only [Tm.d] at e1 e2 ⊢
      simp only [eqOk, l1, l2, Bool.and_true, Bool.true_and, e1, e2]
      exact decide_eq_true h
theorem wEq_d {k : Nat} {t u : Tm} (h : min t.dep u.dep ≤ 199 + 16 * k) : wEq k (.d t.d) (.d u.d) = some (.d (.bool (decide (t = u)))) := by
  simp only [wEq, eqOk_d h, eqD_d, if_true]
theorem wNe_d {k : Nat} {t u : Tm} (h : min t.dep u.dep ≤ 199 + 16 * k) : wNe k (.d t.d) (.d u.d) = some (.d (.bool (!decide (t = u)))) := by
  simp only [wNe, eqOk_d h, eqD_d, if_true]
theorem wEq_fn {k : Nat} (t : Tm) : wEq k (.d t.d) (.d (.str "fn")) = some (.d (.bool false)) := by
  have h : eqOk k t.d (.str "fn") = true := by cases t <;> rfl
  simp only [wEq, h, eqD_fn, if_true]
theorem wNe_fn {k : Nat} (t : Tm) : wNe k (.d t.d) (.d (.str "fn")) = some (.d (.bool true)) := by
  have h : eqOk k t.d (.str "fn") = true := by cases t <;> rfl
  simp only [wNe, h, eqD_fn, if_true]; rfl
/-! ### bits -/
theorem bits_lt {x : Int} {n : Nat} : Builtin.Int.intBits x ≤ n ↔ x.natAbs < 2 ^ n := by
  unfold Builtin.Int.intBits
  split
  · rename_i h
    have h0 : x = 0 := by simpa using h
    subst h0
    simp [Nat.pow_pos]
  · rename_i h
    have h0 : x.natAbs ≠ 0 := by
      intro e
      apply h
      simp
      omega
    rw [Nat.succ_le_iff, Nat.log2_lt h0]
theorem bits_add {x y : Int} {n : Nat} (h1 : Builtin.Int.intBits x ≤ n) (h2 : Builtin.Int.intBits y ≤ n) : Builtin.Int.intBits (x + y) ≤ n + 1 := by
  rw [bits_lt] at h1 h2 ⊢
  have h3 := Int.natAbs_add_le x y
  rw [Nat.pow_succ]
  omega
theorem bits_mono {x : Int} {m n : Nat} (h : Builtin.Int.intBits x ≤ m) (e : m ≤ n) : Builtin.Int.intBits x ≤ n := Nat.le_trans h e
theorem bits_small {x : Int} {n m : Nat} (h : x.natAbs < 2 ^ m) (e : m ≤ n) : Builtin.Int.intBits x ≤ n := bits_mono (bits_lt.mpr h) e
end Nm
namespace Nm
open PySem L2
theorem wIx_t0 (a b : PyData) : wIx (.d (.tuple [a, b])) (.d (.int 0)) = some (.d a) := rfl
theorem wIx_t1 (a b : PyData) : wIx (.d (.tuple [a, b])) (.d (.int 1)) = some (.d b) := rfl
theorem wEq_int (k : Nat) (i j : Int) : wEq k (.d (.int i)) (.d (.int j)) = some (.d (.bool (decide (i = j)))) := by
  simp only [wEq, eqOk, eqD, if_true]
  congr 3
theorem wNe_int (k : Nat) (i j : Int) : wNe k (.d (.int i)) (.d (.int j)) = some (.d (.bool (!decide (i = j)))) := by
  simp only [wNe, eqOk, eqD, if_true]
  congr 3
theorem wEq_str (k : Nat) (i j : Str) : wEq k (.d (.str i)) (.d (.str j)) = some (.d (.bool (decide (i = j)))) := by
  simp only [wEq, eqOk, eqD, if_true]
  congr 3
theorem wNe_str (k : Nat) (i j : Str) : wNe k (.d (.str i)) (.d (.str j)) = some (.d (.bool (!decide (i = j)))) := by
  simp only [wNe, eqOk, eqD, if_true]
  congr 3
/-! ### rows -/
def Tm.row : Tm → Bool
  | .nm _ => false
  | .mk _ => true
  | .ap a b => a.row && b.row
  | .fn _ => false
/-- how many names and makers -/
def Tm.lv : Tm → Nat
  | .nm _ => 1
  | .mk _ => 1
  | .ap a b => a.lv + b.lv
  | .fn b => b.lv
theorem Tm.lv_pos : ∀ t : Tm, 1 ≤ t.lv
  | .nm _ => Nat.le_refl _
  | .mk _ => Nat.le_refl _
  | .ap a b => by have := a.lv_pos; simp only [Tm.lv]; omega
  | .fn b => by have := b.lv_pos; simpa only [Tm.lv] using this
/-- by a drawn term: sorts, how deep, how many -/
inductive Drawn (s : Int) : Nat → Nat → Tm → Prop
  | fn {d n t} : s < 2 → d < 3 → Drawn s (d + 1) n t → Drawn s d n (.fn t)
  | mk {d} (m : Mkr) : s ≠ 0 → Drawn s d 1 (.mk m)
  | nm {d : Nat} (n : Int) : s ≠ 2 → 0 ≤ n → n < (d : Int) + 2 → Drawn s d 1 (.nm n)
  | ap {d n m a b} : 1 ≤ n → 1 ≤ m → Drawn s d n a → Drawn s d m b → Drawn s d (n + m) (.ap a b)
theorem Drawn.lv {s d n t} (h : Drawn s d n t) : t.lv = n := by
  induction h with
  | fn _ _ _ ih => simpa only [Tm.lv] using ih
  | mk => rfl
  | nm => rfl
  | ap _ _ _ _ h1 h2 => simp only [Tm.lv, h1, h2]
theorem Drawn.dep {s d n t} (h : Drawn s d n t) : t.dep + 1 ≤ n + (3 - d) := by
  induction h with
  | fn _ _ _ ih => simp only [Tm.dep]; omega
  | mk => simp only [Tm.dep]; omega
  | nm => simp only [Tm.dep]; omega
  | ap _ _ _ _ h1 h2 => simp only [Tm.dep]; omega
theorem Drawn.rows {d n t} (h : Drawn 2 d n t) : t.row = true := by
  induction h with
  | fn h _ _ ih => exact absurd h (by decide)
  | mk => rfl
  | nm _ h => exact absurd rfl h
  | ap _ _ _ _ h1 h2 => simp only [Tm.row, h1, h2]; rfl
theorem row_dep : ∀ t : Tm, t.row = true → t.dep + 1 ≤ t.lv
  | .nm _, h => by cases h
  | .mk _, _ => Nat.le_refl _
  | .ap a b, h => by
    have h' : a.row = true ∧ b.row = true := by simpa only [Tm.row, Bool.and_eq_true] using h
    have h1 := row_dep a h'.1
    have h2 := row_dep b h'.2
    simp only [Tm.dep, Tm.lv]
    omega
  | .fn _, h => by cases h
theorem layAll_d : ∀ ts : List Tm, PyData.canLayAll0 (ts.map Tm.d) = true
  | [] => by simp only [List.map_nil, PyData.canLayAll0]
  | t :: ts => by simp only [List.map_cons, PyData.canLayAll0, lay_d t, layAll_d ts]; rfl
theorem any_d (m : Tm) : ∀ ts : List Tm, ((ts.map Tm.d).any fun y => PyData.eqv y m.d) = decide (m ∈ ts)
  | [] => by simp
  | t :: ts => by
    have h : (m ∈ t :: ts) ↔ (t = m ∨ m ∈ ts) := by rw [List.mem_cons, eq_comm]
    rw [List.map_cons, List.any_cons, any_d m ts, eqv_d]
    simp only [h, Bool.decide_or]
theorem wIn_tms {k : Nat} {m : Tm} (h : m.dep ≤ 190 + 16 * k) (ts : List Tm) : wInS k false (.d m.d) (.d (.tuple (ts.map Tm.d))) = some (.d (.bool (decide (m ∈ ts)))) := by
  have h2 : min (PyData.depthAll (ts.map Tm.d)) m.d.depth ≤ 190 + 16 * k := by rw [dep_d]; omega
  simp only [wInS, lay_d, layAll_d, h2, decide_true, Bool.and_true, if_true, any_d, Bool.false_eq_true, if_false]
/-! ### ranges, item by item -/
def stp (lo c : Int) : Nat → List PyData
  | 0 => []
  | n + 1 => .int lo :: stp (lo + c) c n
theorem rngD_stp : ∀ (n : Nat) (lo c : Int), rngD lo c n = stp lo c n
  | 0, _, _ => rfl
  | n + 1, lo, c => by
    rw [stp, ← rngD_stp n (lo + c) c]
    unfold rngD
    rw [List.range_succ_eq_map, List.map_cons, List.map_map]
    congr 1
    · simp
    · apply List.map_congr_left
      intro i _
      simp only [Function.comp]
      congr 1
      rw [show ((i.succ : Nat) : Int) = (i : Int) + 1 from rfl, Int.add_mul]
      omega
theorem stp_mem : ∀ (n : Nat) (lo c : Int) (d : PyData), d ∈ stp lo c n → ∃ i : Nat, i < n ∧ d = .int (lo + i * c)
  | 0, _, _, _, h => by cases h
  | n + 1, lo, c, d, h => by
    rcases List.mem_cons.mp h with rfl | h
    · exact ⟨0, by omega, by simp⟩
    · obtain ⟨i, h1, rfl⟩ := stp_mem n (lo + c) c d h
      refine ⟨i + 1, by omega, ?_⟩
      rw [show ((i + 1 : Nat) : Int) = (i : Int) + 1 from rfl, Int.add_mul]
      congr 1
      omega
theorem stp_len : ∀ (n : Nat) (lo c : Int), (stp lo c n).length = n
  | 0, _, _ => rfl
  | n + 1, lo, c => by rw [stp, List.length_cons, stp_len n]
theorem small_rng (hi c : Int) (h1 : 1 ≤ hi) (h2 : hi ≤ 12) (h3 : 2 ≤ c) (h4 : c ≤ 4) : c ≠ 0 ∧ c.natAbs < 1073741824 ∧ Builtin.Range.small 0 hi c = true ∧ 0 ≤ Builtin.Range.rangeSize 0 hi c ∧ (Builtin.Range.rangeSize 0 hi c).toNat ≤ 6 := by
  have h : c = 2 ∨ c = 3 ∨ c = 4 := by omega
  have g : hi = 1 ∨ hi = 2 ∨ hi = 3 ∨ hi = 4 ∨ hi = 5 ∨ hi = 6 ∨ hi = 7 ∨ hi = 8 ∨ hi = 9 ∨ hi = 10 ∨ hi = 11 ∨ hi = 12 := by omega
  rcases h with rfl | rfl | rfl <;> rcases g with rfl | rfl | rfl | rfl | rfl | rfl | rfl | rfl | rfl | rfl | rfl | rfl <;> decide
/-- range(0, max(1, min(most, len(script))), c) -/
theorem itR3_scr {r : Rho} {f : Rho → Option W} {n : Nat} (hi : Int) (c : Int) (hf : f r = some (.d (.int hi))) (h1 : 1 ≤ hi) (h2 : hi ≤ 12) (h3 : 2 ≤ c) (h4 : c ≤ 4) : ∃ n : Nat, n ≤ 6 ∧ itR3 (cI 0) f (cI c) r = some (stp 0 c n) := by
  obtain ⟨g1, g2, g3, g4, g5⟩ := small_rng hi c h1 h2 h3 h4
  refine ⟨_, g5, ?_⟩
  simp only [itR3, cD, hf, rngD_stp]
  rw [if_pos ⟨g1, g2, g3, g4⟩]
/-! ### a walk that goes through -/
theorem forW_inv {g : PyData → Rho → Option Rho} {h : CS} (P : Nat → Rho → Prop) : ∀ (ds : List PyData) (n : Nat) (r : Rho), P n r →
    (∀ i d r, ds[i]? = some d → P (n + i) r → ∃ r1 r2, g d r = some r1 ∧ (h r1 = some (.nx r2) ∨ h r1 = some (.ct r2)) ∧ P (n + i + 1) r2) → ∃ r2, forW g h ds r = some (.nx r2) ∧ P (n + ds.length) r2
  | [], n, r, hp, _ => ⟨r, rfl, hp⟩
  | d :: ds, n, r, hp, hs => by
    obtain ⟨r1, r2, h1, h2, h3⟩ := hs 0 d r rfl hp
    obtain ⟨r3, h4, h5⟩ := forW_inv P ds (n + 1) r2 h3 fun i e r' he hp' => by
      have := hs (i + 1) e r' (by simpa using he) (by rw [show n + (i + 1) = n + 1 + i by omega]; exact hp')
      rw [show n + (i + 1) + 1 = n + 1 + i + 1 by omega] at this
      exact this
    refine ⟨r3, ?_, by rw [List.length_cons, show n + (ds.length + 1) = n + 1 + ds.length by omega]; exact h5⟩
    rw [forW, h1]
    rcases h2 with h2 | h2 <;> · simp only [h2]; exact h4
/-- .. that keeps what is known -/
theorem forW_keep {g : PyData → Rho → Option Rho} {h : CS} (P : Rho → Prop) (ds : List PyData) (r : Rho) (hp : P r)
    (hs : ∀ d r, d ∈ ds → P r → ∃ r1 r2, g d r = some r1 ∧ (h r1 = some (.nx r2) ∨ h r1 = some (.ct r2)) ∧ P r2) : ∃ r2, forW g h ds r = some (.nx r2) ∧ P r2 := by
  obtain ⟨r2, h1, h2⟩ := forW_inv (g := g) (h := h) (fun _ => P) ds 0 r hp fun i d r e p => hs d r (List.mem_of_getElem? e) p
  exact ⟨r2, h1, h2⟩
theorem sFor_keep {g : PyData → Rho → Option Rho} {f : Rho → Option (List PyData)} {h : CS} {ds : List PyData} {r : Rho} (P : Rho → Prop) (hf : f r = some ds) (hp : P r)
    (hs : ∀ d r, d ∈ ds → P r → ∃ r1 r2, g d r = some r1 ∧ (h r1 = some (.nx r2) ∨ h r1 = some (.ct r2)) ∧ P r2) : ∃ r2, sFor g f h r = some (.nx r2) ∧ P r2 := by
  unfold sFor
  rw [hf]
  exact forW_keep P ds r hp hs
abbrev vD (x : PyData) : Option Sl := some (.w (.d x))
abbrev vI (i : Int) : Option Sl := some (.w (.d (.int i)))
abbrev vB (b : Bool) : Option Sl := some (.w (.d (.bool b)))
abbrev vS (l : Str) : Option Sl := some (.w (.d (.str l)))
abbrev vT (t : Tm) : Option Sl := some (.w (.d t.d))
/-- a walk that goes through, as a function -/
def forR (g : PyData → Rho → Option Rho) (h : CS) : List PyData → Rho → Option Rho
  | [], r => some r
  | d :: ds, r => match g d r with
    | some r1 => match h r1 with
      | some (.nx r') => forR g h ds r'
      | some (.ct r') => forR g h ds r'
      | _ => none
    | none => none
theorem forR_W {g : PyData → Rho → Option Rho} {h : CS} : ∀ (ds : List PyData) (r r' : Rho), forR g h ds r = some r' → forW g h ds r = some (.nx r')
  | [], r, r', e => by cases e; rfl
  | d :: ds, r, r', e => by
    rw [forR] at e
    rw [forW]
    cases e1 : g d r with
    | none => rw [e1] at e; cases e
    | some r1 =>
      rw [e1] at e
      simp only [] at e ⊢
      cases e2 : h r1 with
      | none => rw [e2] at e; cases e
      | some o =>
        rw [e2] at e
        cases o with
        | nx r2 => exact forR_W ds r2 r' e
        | ct r2 => exact forR_W ds r2 r' e
        | bk r2 => cases e
        | rt z => cases e
theorem forR_app {g : PyData → Rho → Option Rho} {h : CS} : ∀ (ds es : List PyData) (r r' : Rho), forR g h ds r = some r' → forR g h (ds ++ es) r = forR g h es r'
  | [], es, r, r', e => by cases e; rfl
  | d :: ds, es, r, r', e => by
    rw [forR] at e
    rw [List.cons_append, forR]
    cases e1 : g d r with
    | none => rw [e1] at e; cases e
    | some r1 =>
      rw [e1] at e
      simp only [] at e ⊢
      cases e2 : h r1 with
      | none => rw [e2] at e; cases e
      | some o =>
        rw [e2] at e
        cases o with
        | nx r2 => exact forR_app ds es r2 r' e
        | ct r2 => exact forR_app ds es r2 r' e
        | bk r2 => cases e
        | rt z => cases e
end Nm
namespace Nm
open PySem L2
/-! ### texts -/
abbrev sOf (l : List Nat) : Str := ⟨l.toArray⟩
theorem str_of_list (z : Str) : sOf z.cps.toList = z := by cases z; rfl
theorem sOf_len (l : List Nat) : (sOf l).length = l.length := by simp [Str.length]
theorem sOf_cps (l : List Nat) : (sOf l).cps.toList = l := rfl
theorem sOf_app (l m : List Nat) : (sOf l ++ sOf m : Str) = sOf (l ++ m) := by
  show (⟨l.toArray ++ m.toArray⟩ : Str) = _
  simp
theorem at_s : ("@" : Str) = sOf [64] := by decide +kernel
theorem mk_sOf (m : Mkr) : m.s = sOf [m.c] := by cases m <;> decide +kernel
theorem sOf_inj {l m : List Nat} : sOf l = sOf m ↔ l = m := by
  constructor
  · intro h
    have := congrArg (fun z : Str => z.cps.toList) h
    exact this
  · intro h; rw [h]
theorem revS_cps (z : Str) : (revS z).cps.toList = z.cps.toList.reverse := by
  show ((Builtin.Str.strSliceIndices none none (-1) z.length).filterMap (z.cps[·]?)) = _
  rw [PyProof.Rows.picked_rev, PyProof.Rows.filterMap_get, List.map_map]
  · apply List.ext_getElem?
    intro i
    by_cases h : i < z.cps.size
    · have h1 : (z.cps.toList.reverse)[i]? = some (z.cps.getD (z.cps.size - 1 - i) 0) := by
        rw [List.getElem?_reverse (by simpa using h), Array.getElem?_toList, Array.length_toList]
        have h2 : z.cps.size - 1 - i < z.cps.size := by omega
        rw [Array.getElem?_eq_getElem h2]
        simp [Array.getD, h2]
      rw [h1, List.getElem?_map, List.getElem?_range (by simpa [Str.length] using h)]
      rfl
    · rw [List.getElem?_eq_none (by simp [Str.length]; omega), List.getElem?_eq_none (by simp; omega)]
  · intro i hi
    obtain ⟨k, hk, rfl⟩ := List.mem_map.mp hi
    have hk' : k < z.length := List.mem_range.mp hk
    show z.length - 1 - k < z.length
    omega
theorem revS_sOf (l : List Nat) : revS (sOf l) = sOf l.reverse := by
  rw [← str_of_list (revS (sOf l)), revS_cps]
theorem cutS_sOf (l : List Nat) (a b : Option Int) : cutS (sOf l) a b = sOf ((l.drop (HT.sIx l.length 0 a)).take (HT.sIx l.length l.length b - HT.sIx l.length 0 a)) := by
  unfold cutS
  rw [sOf_len]
/-- is a sign a maker -/
def isMk (c : Nat) : Bool := decide (c ∈ [66, 67, 73, 75, 83])
theorem isMk_ex {c : Nat} (h : isMk c = true) : ∃ m : Mkr, c = m.c := by
  have h : c ∈ [66, 67, 73, 75, 83] := of_decide_eq_true h
  simp only [List.mem_cons, List.not_mem_nil, or_false] at h
  rcases h with h | h | h | h | h
  · exact ⟨.B, h⟩
  · exact ⟨.C, h⟩
  · exact ⟨.I, h⟩
  · exact ⟨.K, h⟩
  · exact ⟨.S, h⟩
theorem isMk_c (m : Mkr) : isMk m.c = true := by cases m <;> decide
theorem c_ne_at (m : Mkr) : m.c ≠ 64 := by cases m <;> decide
theorem mkc_inj {m n : Mkr} (h : m.c = n.c) : m = n := by cases m <;> cases n <;> first | rfl | (exact absurd h (by decide))
theorem in_mk (k : Nat) (c : Nat) : wInS k false (.d (.str (sOf [c]))) (.d (.str "BCIKS")) = some (.d (.bool (isMk c))) := by
  show some (W.d (.bool (!(Builtin.Str.occurrences "BCIKS" ⟨#[c]⟩ 0 ("BCIKS" : Str).length 1).isEmpty))) = _
  rw [PySem.StrLaws.found_one]
  have e : ("BCIKS" : Str).cps.toList = [66, 67, 73, 75, 83] := by decide +kernel
  rw [e]
  rfl
theorem notin_at (k : Nat) (c : Nat) : wInS k true (.d (.str (sOf [c]))) (.d (.str "@BCIKS")) = some (.d (.bool (!(decide (c = 64) || isMk c)))) := by
  show some (W.d (.bool (!(!(Builtin.Str.occurrences "@BCIKS" ⟨#[c]⟩ 0 ("@BCIKS" : Str).length 1).isEmpty)))) = _
  rw [PySem.StrLaws.found_one]
  have e : ("@BCIKS" : Str).cps.toList = [64, 66, 67, 73, 75, 83] := by decide +kernel
  rw [e]
  congr 4
  unfold isMk
  rw [Bool.eq_iff_iff]
  simp
theorem one_at (c : Nat) : (sOf [c] = ("@" : Str)) = (c = 64) := by
  rw [at_s]
  apply propext
  rw [sOf_inj]
  simp
/-- the text of a row -/
def Tm.tx : Tm → List Nat
  | .nm _ => []
  | .mk m => [m.c]
  | .ap a b => 64 :: (a.tx ++ b.tx)
  | .fn _ => []
/-- first wrong place, or what is due at the end -/
def wz : Int → Int → List Nat → Int ⊕ Int
  | due, _, [] => .inr due
  | due, p, c :: l => if due = 0 ∨ ¬ (c = 64 ∨ isMk c = true) then .inl p else wz (if c = 64 then due + 1 else due - 1) (p + 1) l
def wrong (l : List Nat) : Int := match wz 1 0 l with
  | .inl p => p
  | .inr due => if 0 < due then l.length else -1
theorem wz_inl : ∀ (l : List Nat) (due p q : Int), wz due p l = .inl q → p ≤ q ∧ q < p + l.length
  | [], _, _, _, h => by cases h
  | c :: l, due, p, q, h => by
    unfold wz at h
    split at h
    · cases h; simp only [List.length_cons]; omega
    · have := wz_inl l _ _ _ h
      simp only [List.length_cons]; omega
def txs : List Tm → List Nat
  | [] => []
  | t :: ts => t.tx ++ txs ts
theorem wz_rows : ∀ (l : List Nat) (due p q : Int), 0 ≤ due → wz due p l = .inr q → q ≤ 0 → ∃ ts : List Tm, (ts.length : Int) = due ∧ l = txs ts ∧ ∀ t ∈ ts, t.row = true
  | [], due, p, q, h0, h, hq => by
    cases h
    exact ⟨[], by simp only [List.length_nil]; omega, rfl, fun t ht => by cases ht⟩
  | c :: l, due, p, q, h0, h, hq => by
    unfold wz at h
    split at h
    · cases h
    · rename_i hc
      have hc1 : ¬ due = 0 := fun e => hc (.inl e)
      have hc2 : c = 64 ∨ isMk c = true := Decidable.byContradiction fun e => hc (.inr e)
      by_cases e : c = 64
      · rw [if_pos e] at h
        obtain ⟨ts, h1, h2, h3⟩ := wz_rows l _ _ _ (by omega) h hq
        match ts, h1, h2, h3 with
        | [], h1, _, _ => simp only [List.length_nil] at h1; omega
        | [a], h1, _, _ => simp only [List.length_cons, List.length_nil] at h1; omega
        | a :: b :: ts, h1, h2, h3 =>
          refine ⟨.ap a b :: ts, by simp only [List.length_cons] at h1 ⊢; omega, ?_, fun t ht => ?_⟩
          · rw [h2, e]; simp only [txs, Tm.tx, List.cons_append, List.append_assoc]
          · rcases List.mem_cons.mp ht with rfl | ht
            · simp only [Tm.row, h3 a List.mem_cons_self, h3 b (List.mem_cons_of_mem _ List.mem_cons_self)]; rfl
            · exact h3 t (List.mem_cons_of_mem _ (List.mem_cons_of_mem _ ht))
      · rw [if_neg e] at h
        obtain ⟨m, rfl⟩ := isMk_ex (hc2.resolve_left e)
        obtain ⟨ts, h1, h2, h3⟩ := wz_rows l _ _ _ (by omega) h hq
        refine ⟨.mk m :: ts, by simp only [List.length_cons]; omega, ?_, fun t ht => ?_⟩
        · rw [h2]; rfl
        · rcases List.mem_cons.mp ht with rfl | ht
          · rfl
          · exact h3 t ht
theorem wz_txs : ∀ (t : Tm) (l : List Nat) (due p : Int), t.row = true → 0 < due → wz due p (t.tx ++ l) = wz (due - 1) (p + t.tx.length) l
  | .nm _, _, _, _, h, _ => by cases h
  | .fn _, _, _, _, h, _ => by cases h
  | .mk m, l, due, p, _, hd => by
    simp only [Tm.tx, List.cons_append, List.nil_append, List.length_cons, List.length_nil]
    rw [wz, if_neg (fun h => h.elim (fun h => by omega) fun h => h (.inr (isMk_c m))), if_neg (c_ne_at m)]
    rfl
  | .ap a b, l, due, p, h, hd => by
    have h' : a.row = true ∧ b.row = true := by simpa only [Tm.row, Bool.and_eq_true] using h
    simp only [Tm.tx, List.cons_append, List.length_cons, List.append_assoc, List.length_append]
    rw [wz, if_neg (by omega), if_pos rfl, wz_txs a _ _ _ h'.1 (by omega), wz_txs b _ _ _ h'.2 (by omega)]
    congr 1
    · omega
    · omega
theorem wrong_tx {t : Tm} (h : t.row = true) : wrong t.tx = -1 := by
  have := wz_txs t [] 1 0 h (by decide)
  rw [List.append_nil] at this
  unfold wrong
  rw [this]
  rfl
theorem wrong_neg {l : List Nat} (h : wrong l < 0) : ∃ t : Tm, t.row = true ∧ l = t.tx := by
  unfold wrong at h
  split at h
  · rename_i p e
    have := wz_inl l _ _ _ e
    omega
  · rename_i due e
    split at h
    · omega
    · rename_i hd
      obtain ⟨ts, h1, h2, h3⟩ := wz_rows l 1 0 due (by decide) e (by omega)
      match ts, h1, h2, h3 with
      | [], h1, _, _ => simp only [List.length_nil] at h1; omega
      | [a], h1, h2, h3 => exact ⟨a, h3 a List.mem_cons_self, by rw [h2]; simp only [txs, List.append_nil]⟩
      | a :: b :: ts, h1, _, _ => simp only [List.length_cons] at h1; omega
/-- the stack that is read from the end on -/
def rd1 (st : List PyData) (c : Nat) : List PyData := if c = 64 then match st.getLast?, st.dropLast.getLast? with
    | some a, some b => st.dropLast.dropLast ++ [.tuple [a, b]]
    | _, _ => []
  else st ++ [.str (sOf [c])]
theorem rd_tx : ∀ (t : Tm) (st : List PyData), t.row = true → t.tx.reverse.foldl rd1 st = st ++ [t.d]
  | .nm _, _, h => by cases h
  | .fn _, _, h => by cases h
  | .mk m, st, _ => by
    simp only [Tm.tx, List.reverse_cons, List.reverse_nil, List.nil_append, List.foldl_cons, List.foldl_nil, rd1, if_neg (c_ne_at m), Tm.d, mk_sOf]
  | .ap a b, st, h => by
    have h' : a.row = true ∧ b.row = true := by simpa only [Tm.row, Bool.and_eq_true] using h
    simp only [Tm.tx, List.reverse_cons, List.reverse_append, List.foldl_append, List.foldl_cons, List.foldl_nil]
    rw [rd_tx b st h'.2, rd_tx a _ h'.1]
    simp [rd1, Tm.d]
theorem tx_inj {t u : Tm} (ht : t.row = true) (hu : u.row = true) (h : t.tx = u.tx) : t = u := by
  have h1 := rd_tx t [] ht
  rw [h, rd_tx u [] hu] at h1
  simp only [List.nil_append, List.cons.injEq, and_true] at h1
  have h2 := eqv_d u t
  have h3 := eqv_d t t
  rw [h1] at h2
  rw [h2] at h3
  have := of_decide_eq_true (h3.trans (decide_eq_true rfl))
  exact this.symm
/-- how long -/
theorem tx_len : ∀ t : Tm, t.row = true → t.tx.length + 1 = 2 * t.lv
  | .nm _, h => by cases h
  | .fn _, h => by cases h
  | .mk m, _ => rfl
  | .ap a b, h => by
    have h' : a.row = true ∧ b.row = true := by simpa only [Tm.row, Bool.and_eq_true] using h
    have h1 := tx_len a h'.1
    have h2 := tx_len b h'.2
    simp only [Tm.tx, Tm.lv, List.length_cons, List.length_append]
    omega
end Nm
namespace R
open PySem L2 Nm
def topS (i : Nat) : Stmt := PySem.Challenge.pw_namesout_k16_texts_by_hand.main.body.getD i (.Pass ⟨0, 0, 0, 0⟩)
def T : Tab where
  fn := fun i => match i with
    | 0 => "is_maker"
    | 1 => "wrong_of"
    | 2 => "row_of"
    | 3 => "_law_cell_at"
    | 4 => "_law_draw"
    | 5 => "_law_number"
    | 6 => "_law_term"
    | 7 => "_law_text"
    | 8 => "_law_says"
    | 9 => "_law_wrong"
    | 10 => "law"
    | _ => ""
  ps := fun i => match i with
    | 0 => ["thing"]
    | 1 => ["text"]
    | 2 => ["text"]
    | 3 => ["_law_script", "_law_k"]
    | 4 => ["_law_cell", "_law_k", "_law_most"]
    | 5 => ["_law_cell", "_law_k", "_law_limit"]
    | 6 => ["_law_script", "_law_by", "_law_many", "_law_deep", "_law_sorts"]
    | 7 => ["_law_row"]
    | 8 => ["_law_said", "_law_due"]
    | 9 => ["_law_text_here"]
    | 10 => ["_law_script"]
    | 11 => ["self", "text"]
    | 12 => ["self", "text"]
    | _ => []
  cn := fun i => match i with
    | 0 => "Answer"
    | 1 => "Read"
    | 2 => "Wrong"
    | _ => ""
  cf := fun i => match i with
    | 0 => []
    | 1 => ["row"]
    | 2 => ["place"]
    | _ => []
  gl := fun x => if x = "MAKERS" then some (.str "BCIKS") else none
  bl := ["isinstance", "str", "len", "enumerate", "max", "tuple", "bool", "range", "min"]
  mo := fun i => match i with
    | 11 => some (1, "shows")
    | 12 => some (2, "shows")
    | _ => none
  nc := 3
theorem bl_isinstance : ("isinstance" : Str) ∈ T.bl := .head _
theorem bl_str : ("str" : Str) ∈ T.bl := .tail _ (.head _)
theorem bl_len : ("len" : Str) ∈ T.bl := .tail _ (.tail _ (.head _))
theorem bl_enumerate : ("enumerate" : Str) ∈ T.bl := .tail _ (.tail _ (.tail _ (.head _)))
theorem bl_max : ("max" : Str) ∈ T.bl := .tail _ (.tail _ (.tail _ (.tail _ (.head _))))
theorem bl_tuple : ("tuple" : Str) ∈ T.bl := .tail _ (.tail _ (.tail _ (.tail _ (.tail _ (.head _)))))
theorem bl_bool : ("bool" : Str) ∈ T.bl := .tail _ (.tail _ (.tail _ (.tail _ (.tail _ (.tail _ (.head _))))))
theorem bl_range : ("range" : Str) ∈ T.bl := .tail _ (.tail _ (.tail _ (.tail _ (.tail _ (.tail _ (.tail _ (.head _)))))))
theorem bl_min : ("min" : Str) ∈ T.bl := .tail _ (.tail _ (.tail _ (.tail _ (.tail _ (.tail _ (.tail _ (.tail _ (.head _))))))))
theorem nc_0 : 0 < T.nc := by decide
theorem nc_1 : 1 < T.nc := by decide
theorem nc_2 : 2 < T.nc := by decide
theorem nf_11 : ("shows" : Str) ∉ T.cf 1 := by decide +kernel
theorem nf_12 : ("shows" : Str) ∉ T.cf 2 := by decide +kernel
theorem wAtt_Read_row (d0 : PyData) : wAtt T "row" (.o 1 [d0]) = some (.d d0) := rfl
theorem wMake_Read (k : Nat) (hk : 2 ≤ k) (d0 : PyData) : wMake T k 1 [.d d0] = some (.o 1 [d0]) := if_pos ⟨hk, by decide, rfl, by intro h; cases h⟩
theorem wAtt_Wrong_place (d0 : PyData) : wAtt T "place" (.o 2 [d0]) = some (.d d0) := rfl
theorem wMake_Wrong (k : Nat) (hk : 2 ≤ k) (d0 : PyData) : wMake T k 2 [.d d0] = some (.o 2 [d0]) := if_pos ⟨hk, by decide, rfl, by intro h; cases h⟩
def WN : Nat := 100000
abbrev s_is_maker : Stmt := topS 2
theorem sc_is_maker : FnScope ["thing"] ["thing"] (defScope s_is_maker) := ⟨rfl, rfl, rfl, by decide +kernel, rfl, by decide +kernel, by decide +kernel⟩
def m_is_maker (F : Fs) (k : Nat) : CS :=
    (sRet (cAnd (cOp1 (wIsi isStr) (cVar 0)) (cAnd (cOp2 (wEq k) (cOp1 wLen (cVar 0)) (cI 1)) (cOp2 (wInS k false) (cVar 0) (cS "BCIKS")))))
theorem ok_is_maker (F : Fs) (k : Nat) : OkSs ⟨T, ["thing"], F, k, defScope s_is_maker⟩ (defBody s_is_maker) (m_is_maker F k) :=
    (okSs_one (okS_ret (ok_and (ok_isi ty_str bl_isinstance rfl bl_str rfl (ok_var (i := 0) rfl (.inl rfl))) (ok_and (ok_eq (ok_len bl_len rfl (ok_var (i := 0) rfl (.inl rfl))) ok_int) (ok_one (ok_in (ok_var (i := 0) rfl (.inl rfl)) (ok_gS rfl rfl)))))))
abbrev s_wrong_of : Stmt := topS 7
theorem sc_wrong_of : FnScope ["text", "due", "place", "sign"] ["text"] (defScope s_wrong_of) := ⟨rfl, rfl, rfl, by decide +kernel, rfl, by decide +kernel, by decide +kernel⟩
def i_wrong_of_1 (F : Fs) (k : Nat) (r : Rho) : Option (List PyData) :=
    (itE (cVar 0)) r
def b_wrong_of_1 (F : Fs) (k : Nat) (r : Rho) : Option Out :=
    (sSeq (sIf (qOr (cT (cOp2 (wEq k) (cVar 1) (cI 0))) (qAnd (cT (cOp2 (wNe k) (cVar 3) (cS "@"))) (qNot (cT (cCall F 0 (aCons (cVar 3) aNil)))))) (sRet (cVar 2)) sNil)
    (sAug 1 (fun m n => m + n) (cIf (cT (cOp2 (wEq k) (cVar 3) (cS "@"))) (cI 1) (cOp1 wNeg (cI 1))))) r
def m_wrong_of (F : Fs) (k : Nat) : CS :=
    (sSeq (sAsg 1 (cI 1))
    (sSeq (sFor (gN2 2 3) (i_wrong_of_1 F k) (b_wrong_of_1 F k))
    (sRet (cIf (cT (cOp2 wGt (cVar 1) (cI 0))) (cOp1 wLen (cVar 0)) (cOp1 wNeg (cI 1))))))
theorem ok_wrong_of (F : Fs) (k : Nat) : OkSs ⟨T, ["text", "due", "place", "sign"], F, k, defScope s_wrong_of⟩ (defBody s_wrong_of) (m_wrong_of F k) :=
    (okSs_cons (okS_asg 1 rfl (.inl rfl) ok_int)
    (okSs_cons (okS_for (okI_enum bl_enumerate rfl (ok_var (i := 0) rfl (.inl rfl))) (okG_two 2 3 rfl (.inl rfl) rfl (.inl rfl))
    (okSs_cons (okS_if (okT_W (okW_or (okT_eq (ok_var (i := 1) rfl (.inl rfl)) ok_int) (okW_one_or (okT_W (okW_and (okT_ne (ok_var (i := 3) rfl (.inl rfl)) ok_str) (okW_one_and (okT_not (okT_val (ok_call 0 rfl rfl rfl (okA_cons (ok_var (i := 3) rfl (.inl rfl)) okA_nil)))))))))) (okSs_one (okS_ret (ok_var (i := 2) rfl (.inl rfl)))) okSs_nil)
    (okSs_one (okS_augAdd 1 rfl (.inl rfl) (ok_if (okT_eq (ok_var (i := 3) rfl (.inl rfl)) ok_str) ok_int (ok_neg ok_int))))))
    (okSs_one (okS_ret (ok_if (okT_gt (ok_var (i := 1) rfl (.inl rfl)) ok_int) (ok_len bl_len rfl (ok_var (i := 0) rfl (.inl rfl))) (ok_neg ok_int))))))
abbrev s_row_of : Stmt := topS 8
theorem sc_row_of : FnScope ["text", "found", "sign", "left", "right"] ["text"] (defScope s_row_of) := ⟨rfl, rfl, rfl, by decide +kernel, rfl, by decide +kernel, by decide +kernel⟩
def i_row_of_1 (F : Fs) (k : Nat) (r : Rho) : Option (List PyData) :=
    (itS (cRev (cVar 0))) r
def b_row_of_1 (F : Fs) (k : Nat) (r : Rho) : Option Out :=
    (sIf (cT (cOp2 (wEq k) (cVar 2) (cS "@"))) (sSeq (sPop2 3 4 1)
    (sApp 1 (cTup (aCons (cVar 3) (aCons (cVar 4) aNil))))) (sApp 1 (cVar 2))) r
def m_row_of (F : Fs) (k : Nat) : CS :=
    (sSeq (sAsgO 1 (lLst aNil))
    (sSeq (sFor (gN 2) (i_row_of_1 F k) (b_row_of_1 F k))
    (sRet (cOp2 wIx (cVar 1) (cI 0)))))
theorem ok_row_of (F : Fs) (k : Nat) : OkSs ⟨T, ["text", "found", "sign", "left", "right"], F, k, defScope s_row_of⟩ (defBody s_row_of) (m_row_of F k) :=
    (okSs_cons (okS_asgO 1 rfl (.inl rfl) (ok_lst okA_nil))
    (okSs_cons (okS_for (okI_str (ok_rev (ok_var (i := 0) rfl (.inl rfl)))) (okG_name 2 rfl (.inl rfl))
    (okSs_one (okS_if (okT_eq (ok_var (i := 2) rfl (.inl rfl)) ok_str) (okSs_cons (okS_pop2 3 4 1 rfl (.inl rfl) rfl rfl rfl rfl (by decide))
    (okSs_one (okS_app 1 rfl (.inl rfl) (ok_tup (okA_cons (ok_var (i := 3) rfl (.inl rfl)) (okA_cons (ok_var (i := 4) rfl (.inl rfl)) okA_nil)))))) (okSs_one (okS_app 1 rfl (.inl rfl) (ok_var (i := 2) rfl (.inl rfl)))))))
    (okSs_one (okS_ret (ok_ix (ok_var (i := 1) rfl (.inl rfl)) ok_int)))))
abbrev s_law_cell_at : Stmt := topS 10
theorem sc_law_cell_at : FnScope ["_law_script", "_law_k"] ["_law_script", "_law_k"] (defScope s_law_cell_at) := ⟨rfl, rfl, rfl, by decide +kernel, rfl, by decide +kernel, by decide +kernel⟩
def m_law_cell_at (F : Fs) (k : Nat) : CS :=
    (sSeq (sIf (cT (cOp2 wLt (cVar 1) (cOp1 wLen (cVar 0)))) (sRet (cOp2 wIx (cVar 0) (cVar 1))) sNil)
    (sRet (cI 0)))
theorem ok_law_cell_at (F : Fs) (k : Nat) : OkSs ⟨T, ["_law_script", "_law_k"], F, k, defScope s_law_cell_at⟩ (defBody s_law_cell_at) (m_law_cell_at F k) :=
    (okSs_cons (okS_if (okT_lt (ok_var (i := 1) rfl (.inl rfl)) (ok_len bl_len rfl (ok_var (i := 0) rfl (.inl rfl)))) (okSs_one (okS_ret (ok_ix (ok_var (i := 0) rfl (.inl rfl)) (ok_var (i := 1) rfl (.inl rfl))))) okSs_nil)
    (okSs_one (okS_ret ok_int)))
abbrev s_law_draw : Stmt := topS 11
theorem sc_law_draw : FnScope ["_law_cell", "_law_k", "_law_most", "_law_primes"] ["_law_cell", "_law_k", "_law_most"] (defScope s_law_draw) := ⟨rfl, rfl, rfl, by decide +kernel, rfl, by decide +kernel, by decide +kernel⟩
def m_law_draw (F : Fs) (k : Nat) : CS :=
    (sSeq (sAsg 3 (cTup (aCons (cI 1000003) (aCons (cI 1000033) (aCons (cI 1000037) (aCons (cI 1000039) (aCons (cI 1000081) (aCons (cI 1000099) (aCons (cI 1000117) (aCons (cI 1000121) (aCons (cI 1000133) (aCons (cI 1000151) (aCons (cI 1000159) (aCons (cI 1000171) (aCons (cI 1000183) (aCons (cI 1000187) (aCons (cI 1000193) (aCons (cI 1000199) aNil))))))))))))))))))
    (sRet (cOp2 wMod (cOp2 wMod (cOp2 wAdd (cOp2 wMul (cVar 0) (cI 48271)) (cOp2 wMul (cVar 1) (cI 69621))) (cOp2 wIx (cVar 3) (cOp2 wMod (cVar 1) (cI 16)))) (cVar 2))))
theorem ok_law_draw (F : Fs) (k : Nat) : OkSs ⟨T, ["_law_cell", "_law_k", "_law_most", "_law_primes"], F, k, defScope s_law_draw⟩ (defBody s_law_draw) (m_law_draw F k) :=
    (okSs_cons (okS_asg 3 rfl (.inl rfl) (ok_tup (okA_cons ok_int (okA_cons ok_int (okA_cons ok_int (okA_cons ok_int (okA_cons ok_int (okA_cons ok_int (okA_cons ok_int (okA_cons ok_int (okA_cons ok_int (okA_cons ok_int (okA_cons ok_int (okA_cons ok_int (okA_cons ok_int (okA_cons ok_int (okA_cons ok_int (okA_cons ok_int okA_nil))))))))))))))))))
    (okSs_one (okS_ret (ok_mod (ok_mod (ok_add (ok_mul (ok_var (i := 0) rfl (.inl rfl)) ok_int) (ok_mul (ok_var (i := 1) rfl (.inl rfl)) ok_int)) (ok_ix (ok_var (i := 3) rfl (.inl rfl)) (ok_mod (ok_var (i := 1) rfl (.inl rfl)) ok_int))) (ok_var (i := 2) rfl (.inl rfl))))))
abbrev s_law_number : Stmt := topS 12
theorem sc_law_number : FnScope ["_law_cell", "_law_k", "_law_limit"] ["_law_cell", "_law_k", "_law_limit"] (defScope s_law_number) := ⟨rfl, rfl, rfl, by decide +kernel, rfl, by decide +kernel, by decide +kernel⟩
def m_law_number (F : Fs) (k : Nat) : CS :=
    (sSeq (sIf (cT (cOp2 wGe (cVar 0) (cOp2 wPow (cI 10) (cI 18)))) (sRet (cOp2 wMod (cOp2 wDiv (cOp2 wSub (cVar 0) (cOp2 wPow (cI 10) (cI 18))) (cOp2 wIx (cTup (aCons (cI 1) (aCons (cI 7) (aCons (cI 49) (aCons (cI 343) (aCons (cI 2401) aNil)))))) (cOp2 wMod (cVar 1) (cI 5)))) (cVar 2))) sNil)
    (sRet (cOp2 wMod (cCall F 4 (aCons (cOp2 wMul (cOp2 wAdd (cVar 0) (cOp2 wMul (cI 977) (cVar 1))) (cOp2 wAdd (cOp2 wAdd (cVar 0) (cOp2 wMul (cI 31) (cVar 1))) (cI 5))) (aCons (cOp2 wAdd (cOp2 wMod (cVar 1) (cI 9)) (cI 1)) (aCons (cI 999983) aNil)))) (cVar 2))))
theorem ok_law_number (F : Fs) (k : Nat) : OkSs ⟨T, ["_law_cell", "_law_k", "_law_limit"], F, k, defScope s_law_number⟩ (defBody s_law_number) (m_law_number F k) :=
    (okSs_cons (okS_if (okT_ge (ok_var (i := 0) rfl (.inl rfl)) (ok_pow ok_int ok_int)) (okSs_one (okS_ret (ok_mod (ok_div (ok_sub (ok_var (i := 0) rfl (.inl rfl)) (ok_pow ok_int ok_int)) (ok_ix (ok_tup (okA_cons ok_int (okA_cons ok_int (okA_cons ok_int (okA_cons ok_int (okA_cons ok_int okA_nil)))))) (ok_mod (ok_var (i := 1) rfl (.inl rfl)) ok_int))) (ok_var (i := 2) rfl (.inl rfl))))) okSs_nil)
    (okSs_one (okS_ret (ok_mod (ok_call 4 rfl rfl rfl (okA_cons (ok_mul (ok_add (ok_var (i := 0) rfl (.inl rfl)) (ok_mul ok_int (ok_var (i := 1) rfl (.inl rfl)))) (ok_add (ok_add (ok_var (i := 0) rfl (.inl rfl)) (ok_mul ok_int (ok_var (i := 1) rfl (.inl rfl)))) ok_int)) (okA_cons (ok_add (ok_mod (ok_var (i := 1) rfl (.inl rfl)) ok_int) ok_int) (okA_cons ok_int okA_nil)))) (ok_var (i := 2) rfl (.inl rfl))))))
abbrev s_law_term : Stmt := topS 13
theorem sc_law_term : FnScope ["_law_script", "_law_by", "_law_many", "_law_deep", "_law_sorts", "_law_number_here", "_law_wide", "_law_left", "_law_first"] ["_law_script", "_law_by", "_law_many", "_law_deep", "_law_sorts"] (defScope s_law_term) := ⟨rfl, rfl, rfl, by decide +kernel, rfl, by decide +kernel, by decide +kernel⟩
def m_law_term (F : Fs) (k : Nat) : CS :=
    (sSeq (sAsg 5 (cCall F 5 (aCons (cOp2 wAdd (cCall F 3 (aCons (cVar 0) (aCons (cOp2 wMod (cVar 1) (cI 63)) aNil))) (cOp2 wMul (cI 31) (cVar 1))) (aCons (cOp2 wAdd (cOp2 wMod (cVar 1) (cI 97)) (cVar 2)) (aCons (cOp2 wPow (cI 10) (cI 9)) aNil)))))
    (sSeq (sIf (qAnd (cT (cOp2 wLt (cVar 4) (cI 2))) (qAnd (cT (cOp2 wLt (cVar 3) (cI 3))) (cT (cOp2 (wEq k) (cOp2 wMod (cVar 5) (cI 3)) (cI 0))))) (sRet (cTup (aCons (cS "fn") (aCons (cCall F 6 (aCons (cVar 0) (aCons (cOp2 wAdd (cOp2 wMul (cI 2) (cVar 1)) (cI 1)) (aCons (cVar 2) (aCons (cOp2 wAdd (cVar 3) (cI 1)) (aCons (cVar 4) aNil)))))) aNil)))) sNil)
    (sSeq (sIf (cT (cOp2 (wEq k) (cVar 2) (cI 1))) (sSeq (sIf (qOr (cT (cOp2 (wEq k) (cVar 4) (cI 2))) (qAnd (cT (cOp2 (wEq k) (cVar 4) (cI 1))) (cT (cOp2 (wEq k) (cOp2 wMod (cOp2 wDiv (cVar 5) (cI 3)) (cI 3)) (cI 0))))) (sRet (cOp2 wIx (cS "BCIKS") (cOp2 wMod (cOp2 wDiv (cVar 5) (cI 9)) (cI 5)))) sNil)
    (sSeq (sAsg 6 (cIf (cT (cOp2 (wEq k) (cOp2 wMod (cOp2 wDiv (cVar 5) (cI 45)) (cI 5)) (cI 0))) (cOp2 wAdd (cVar 3) (cI 2)) (cOp2 wMax (cI 1) (cVar 3))))
    (sRet (cOp2 wMod (cOp2 wDiv (cVar 5) (cI 225)) (cVar 6))))) sNil)
    (sSeq (sAsg 7 (cOp2 wAdd (cI 1) (cOp2 wMod (cOp2 wDiv (cVar 5) (cI 3)) (cOp2 wSub (cVar 2) (cI 1)))))
    (sSeq (sAsg 8 (cCall F 6 (aCons (cVar 0) (aCons (cOp2 wAdd (cOp2 wMul (cI 2) (cVar 1)) (cI 1)) (aCons (cVar 7) (aCons (cVar 3) (aCons (cVar 4) aNil)))))))
    (sRet (cTup (aCons (cVar 8) (aCons (cCall F 6 (aCons (cVar 0) (aCons (cOp2 wAdd (cOp2 wMul (cI 2) (cVar 1)) (cI 2)) (aCons (cOp2 wSub (cVar 2) (cVar 7)) (aCons (cVar 3) (aCons (cVar 4) aNil)))))) aNil)))))))))
theorem ok_law_term (F : Fs) (k : Nat) : OkSs ⟨T, ["_law_script", "_law_by", "_law_many", "_law_deep", "_law_sorts", "_law_number_here", "_law_wide", "_law_left", "_law_first"], F, k, defScope s_law_term⟩ (defBody s_law_term) (m_law_term F k) :=
    (okSs_cons (okS_asg 5 rfl (.inl rfl) (ok_call 5 rfl rfl rfl (okA_cons (ok_add (ok_call 3 rfl rfl rfl (okA_cons (ok_var (i := 0) rfl (.inl rfl)) (okA_cons (ok_mod (ok_var (i := 1) rfl (.inl rfl)) ok_int) okA_nil))) (ok_mul ok_int (ok_var (i := 1) rfl (.inl rfl)))) (okA_cons (ok_add (ok_mod (ok_var (i := 1) rfl (.inl rfl)) ok_int) (ok_var (i := 2) rfl (.inl rfl))) (okA_cons (ok_pow ok_int ok_int) okA_nil)))))
    (okSs_cons (okS_if (okT_W (okW_and (okT_lt (ok_var (i := 4) rfl (.inl rfl)) ok_int) (okW_and (okT_lt (ok_var (i := 3) rfl (.inl rfl)) ok_int) (okW_one_and (okT_eq (ok_mod (ok_var (i := 5) rfl (.inl rfl)) ok_int) ok_int))))) (okSs_one (okS_ret (ok_tup (okA_cons ok_str (okA_cons (ok_call 6 rfl rfl rfl (okA_cons (ok_var (i := 0) rfl (.inl rfl)) (okA_cons (ok_add (ok_mul ok_int (ok_var (i := 1) rfl (.inl rfl))) ok_int) (okA_cons (ok_var (i := 2) rfl (.inl rfl)) (okA_cons (ok_add (ok_var (i := 3) rfl (.inl rfl)) ok_int) (okA_cons (ok_var (i := 4) rfl (.inl rfl)) okA_nil)))))) okA_nil))))) okSs_nil)
    (okSs_cons (okS_if (okT_eq (ok_var (i := 2) rfl (.inl rfl)) ok_int) (okSs_cons (okS_if (okT_W (okW_or (okT_eq (ok_var (i := 4) rfl (.inl rfl)) ok_int) (okW_one_or (okT_W (okW_and (okT_eq (ok_var (i := 4) rfl (.inl rfl)) ok_int) (okW_one_and (okT_eq (ok_mod (ok_div (ok_var (i := 5) rfl (.inl rfl)) ok_int) ok_int) ok_int))))))) (okSs_one (okS_ret (ok_ix ok_str (ok_mod (ok_div (ok_var (i := 5) rfl (.inl rfl)) ok_int) ok_int)))) okSs_nil)
    (okSs_cons (okS_asg 6 rfl (.inl rfl) (ok_if (okT_eq (ok_mod (ok_div (ok_var (i := 5) rfl (.inl rfl)) ok_int) ok_int) ok_int) (ok_add (ok_var (i := 3) rfl (.inl rfl)) ok_int) (ok_max bl_max rfl ok_int (ok_var (i := 3) rfl (.inl rfl)))))
    (okSs_one (okS_ret (ok_mod (ok_div (ok_var (i := 5) rfl (.inl rfl)) ok_int) (ok_var (i := 6) rfl (.inl rfl))))))) okSs_nil)
    (okSs_cons (okS_asg 7 rfl (.inl rfl) (ok_add ok_int (ok_mod (ok_div (ok_var (i := 5) rfl (.inl rfl)) ok_int) (ok_sub (ok_var (i := 2) rfl (.inl rfl)) ok_int))))
    (okSs_cons (okS_asg 8 rfl (.inl rfl) (ok_call 6 rfl rfl rfl (okA_cons (ok_var (i := 0) rfl (.inl rfl)) (okA_cons (ok_add (ok_mul ok_int (ok_var (i := 1) rfl (.inl rfl))) ok_int) (okA_cons (ok_var (i := 7) rfl (.inl rfl)) (okA_cons (ok_var (i := 3) rfl (.inl rfl)) (okA_cons (ok_var (i := 4) rfl (.inl rfl)) okA_nil)))))))
    (okSs_one (okS_ret (ok_tup (okA_cons (ok_var (i := 8) rfl (.inl rfl)) (okA_cons (ok_call 6 rfl rfl rfl (okA_cons (ok_var (i := 0) rfl (.inl rfl)) (okA_cons (ok_add (ok_mul ok_int (ok_var (i := 1) rfl (.inl rfl))) ok_int) (okA_cons (ok_sub (ok_var (i := 2) rfl (.inl rfl)) (ok_var (i := 7) rfl (.inl rfl))) (okA_cons (ok_var (i := 3) rfl (.inl rfl)) (okA_cons (ok_var (i := 4) rfl (.inl rfl)) okA_nil)))))) okA_nil))))))))))
abbrev s_law_text : Stmt := topS 14
theorem sc_law_text : FnScope ["_law_row"] ["_law_row"] (defScope s_law_text) := ⟨rfl, rfl, rfl, by decide +kernel, rfl, by decide +kernel, by decide +kernel⟩
def m_law_text (F : Fs) (k : Nat) : CS :=
    (sRet (cIf (cT (cOp1 (wIsi isTup) (cVar 0))) (cOp2 wAdd (cOp2 wAdd (cS "@") (cCall F 7 (aCons (cOp2 wIx (cVar 0) (cI 0)) aNil))) (cCall F 7 (aCons (cOp2 wIx (cVar 0) (cI 1)) aNil))) (cVar 0)))
theorem ok_law_text (F : Fs) (k : Nat) : OkSs ⟨T, ["_law_row"], F, k, defScope s_law_text⟩ (defBody s_law_text) (m_law_text F k) :=
    (okSs_one (okS_ret (ok_if (okT_val (ok_isi ty_tuple bl_isinstance rfl bl_tuple rfl (ok_var (i := 0) rfl (.inl rfl)))) (ok_add (ok_add ok_str (ok_call 7 rfl rfl rfl (okA_cons (ok_ix (ok_var (i := 0) rfl (.inl rfl)) ok_int) okA_nil))) (ok_call 7 rfl rfl rfl (okA_cons (ok_ix (ok_var (i := 0) rfl (.inl rfl)) ok_int) okA_nil))) (ok_var (i := 0) rfl (.inl rfl)))))
abbrev s_law_says : Stmt := topS 15
theorem sc_law_says : FnScope ["_law_said", "_law_due"] ["_law_said", "_law_due"] (defScope s_law_says) := ⟨rfl, rfl, rfl, by decide +kernel, rfl, by decide +kernel, by decide +kernel⟩
def m_law_says (F : Fs) (k : Nat) : CS :=
    (sRet (cAnd (cOp1 (wIsi isBool) (cVar 0)) (cOp2 (wEq k) (cVar 0) (cVar 1))))
theorem ok_law_says (F : Fs) (k : Nat) : OkSs ⟨T, ["_law_said", "_law_due"], F, k, defScope s_law_says⟩ (defBody s_law_says) (m_law_says F k) :=
    (okSs_one (okS_ret (ok_and (ok_isi ty_bool bl_isinstance rfl bl_bool rfl (ok_var (i := 0) rfl (.inl rfl))) (ok_one (ok_eq (ok_var (i := 0) rfl (.inl rfl)) (ok_var (i := 1) rfl (.inl rfl)))))))
abbrev s_law_wrong : Stmt := topS 16
theorem sc_law_wrong : FnScope ["_law_text_here", "_law_due", "_law_place"] ["_law_text_here"] (defScope s_law_wrong) := ⟨rfl, rfl, rfl, by decide +kernel, rfl, by decide +kernel, by decide +kernel⟩
def i_law_wrong_1 (F : Fs) (k : Nat) (r : Rho) : Option (List PyData) :=
    (itR1 (cOp1 wLen (cVar 0))) r
def b_law_wrong_1 (F : Fs) (k : Nat) (r : Rho) : Option Out :=
    (sSeq (sIf (qOr (cT (cOp2 (wEq k) (cVar 1) (cI 0))) (cT (cOp2 (wInS k true) (cOp2 wIx (cVar 0) (cVar 2)) (cS "@BCIKS")))) (sRet (cVar 2)) sNil)
    (sAsg 1 (cOp2 wAdd (cVar 1) (cIf (cT (cOp2 (wEq k) (cOp2 wIx (cVar 0) (cVar 2)) (cS "@"))) (cI 1) (cOp1 wNeg (cI 1)))))) r
def m_law_wrong (F : Fs) (k : Nat) : CS :=
    (sSeq (sAsg 1 (cI 1))
    (sSeq (sFor (gN 2) (i_law_wrong_1 F k) (b_law_wrong_1 F k))
    (sRet (cIf (cT (cOp2 wGt (cVar 1) (cI 0))) (cOp1 wLen (cVar 0)) (cOp1 wNeg (cI 1))))))
theorem ok_law_wrong (F : Fs) (k : Nat) : OkSs ⟨T, ["_law_text_here", "_law_due", "_law_place"], F, k, defScope s_law_wrong⟩ (defBody s_law_wrong) (m_law_wrong F k) :=
    (okSs_cons (okS_asg 1 rfl (.inl rfl) ok_int)
    (okSs_cons (okS_for (okI_rng1 bl_range rfl (ok_len bl_len rfl (ok_var (i := 0) rfl (.inl rfl)))) (okG_name 2 rfl (.inl rfl))
    (okSs_cons (okS_if (okT_W (okW_or (okT_eq (ok_var (i := 1) rfl (.inl rfl)) ok_int) (okW_one_or (okT_notin (ok_ix (ok_var (i := 0) rfl (.inl rfl)) (ok_var (i := 2) rfl (.inl rfl))) ok_str)))) (okSs_one (okS_ret (ok_var (i := 2) rfl (.inl rfl)))) okSs_nil)
    (okSs_one (okS_asg 1 rfl (.inl rfl) (ok_add (ok_var (i := 1) rfl (.inl rfl)) (ok_if (okT_eq (ok_ix (ok_var (i := 0) rfl (.inl rfl)) (ok_var (i := 2) rfl (.inl rfl))) ok_str) ok_int (ok_neg ok_int)))))))
    (okSs_one (okS_ret (ok_if (okT_gt (ok_var (i := 1) rfl (.inl rfl)) ok_int) (ok_len bl_len rfl (ok_var (i := 0) rfl (.inl rfl))) (ok_neg ok_int))))))
abbrev s_law : Stmt := topS 17
theorem sc_law : FnScope ["_law_script", "_law_by", "_law_cell", "_law_row", "_law_text_here", "_law_at", "_law_one", "_law_place", "_law_mine", "_law_due", "_law_spot"] ["_law_script"] (defScope s_law) := ⟨rfl, rfl, rfl, by decide +kernel, rfl, by decide +kernel, by decide +kernel⟩
def i_law_3 (F : Fs) (k : Nat) (r : Rho) : Option (List PyData) :=
    (itT (cTup (aCons (cVar 3) (aCons (cTup (aCons (cS "K") (aCons (cVar 3) aNil))) (aCons (cS "I") (aCons (cI 0) (aCons (cTup (aCons (cS "fn") (aCons (cI 0) aNil))) (aCons (cTup (aCons (cVar 3) (aCons (cS "K") aNil))) (aCons (cTup (aCons (cS "S") (aCons (cI 1) aNil))) aNil))))))))) r
def b_law_3 (F : Fs) (k : Nat) (r : Rho) : Option Out :=
    (sSeq (sAsg 9 (cAnd (cOp2 wLt (cVar 7) (cI 0)) (cOp2 (wInS k false) (cVar 8) (cTup (aCons (cVar 3) (aCons (cS "I") (aCons (cTup (aCons (cS "K") (aCons (cVar 3) aNil))) (aCons (cTup (aCons (cVar 3) (aCons (cS "K") aNil))) aNil))))))))
    (sSeq (sAsg 9 (cAnd (cVar 9) (cOp2 (wEq k) (cCall F 7 (aCons (cVar 8) aNil)) (cVar 6))))
    (sIf (qOr (cT (cOp2 (wNe k) (cAtt T "row" (cMake T k 1 (aCons (cVar 8) aNil))) (cVar 8))) (qNot (cT (cCall F 8 (aCons (cMeth F 11 1 (cMake T k 1 (aCons (cVar 8) aNil)) (aCons (cVar 6) aNil)) (aCons (cVar 9) aNil)))))) (sRet (cB false)) sNil))) r
def i_law_4 (F : Fs) (k : Nat) (r : Rho) : Option (List PyData) :=
    (itT (cTup (aCons (cVar 7) (aCons (cOp2 wAdd (cVar 7) (cI 1)) (aCons (cOp2 wSub (cVar 7) (cI 1)) (aCons (cI 0) (aCons (cOp1 wNeg (cI 1)) (aCons (cOp2 wPow (cI 10) (cI 20)) (aCons (cOp1 wLen (cVar 6)) aNil))))))))) r
def b_law_4 (F : Fs) (k : Nat) (r : Rho) : Option Out :=
    (sSeq (sAsg 9 (cAnd (cOp2 wGe (cVar 7) (cI 0)) (cOp2 (wEq k) (cVar 10) (cVar 7))))
    (sIf (qOr (cT (cOp2 (wNe k) (cAtt T "place" (cMake T k 2 (aCons (cVar 10) aNil))) (cVar 10))) (qNot (cT (cCall F 8 (aCons (cMeth F 12 2 (cMake T k 2 (aCons (cVar 10) aNil)) (aCons (cVar 6) aNil)) (aCons (cVar 9) aNil)))))) (sRet (cB false)) sNil)) r
def i_law_2 (F : Fs) (k : Nat) (r : Rho) : Option (List PyData) :=
    (itT (cTup (aCons (cVar 4) (aCons (cSlS (cVar 4) oNone (oSome (cVar 5))) (aCons (cOp2 wAdd (cVar 4) (cS "K")) (aCons (cOp2 wAdd (cOp2 wAdd (cSlS (cVar 4) oNone (oSome (cVar 5))) (cS "?")) (cSlS (cVar 4) (oSome (cVar 5)) oNone)) (aCons (cOp2 wAdd (cS "@") (cVar 4)) aNil))))))) r
def b_law_2 (F : Fs) (k : Nat) (r : Rho) : Option Out :=
    (sSeq (sAsg 7 (cCall F 9 (aCons (cVar 6) aNil)))
    (sSeq (sFor (gN 8) (i_law_3 F k) (b_law_3 F k))
    (sFor (gN 10) (i_law_4 F k) (b_law_4 F k)))) r
def i_law_1 (F : Fs) (k : Nat) (r : Rho) : Option (List PyData) :=
    (itR3 (cI 0) (cOp2 wMax (cI 1) (cOp2 wMin (cI 12) (cOp1 wLen (cVar 0)))) (cI 3)) r
def b_law_1 (F : Fs) (k : Nat) (r : Rho) : Option Out :=
    (sSeq (sAsg 2 (cCall F 3 (aCons (cVar 0) (aCons (cVar 1) aNil))))
    (sSeq (sAsg 3 (cCall F 6 (aCons (cVar 0) (aCons (cVar 1) (aCons (cOp2 wAdd (cI 1) (cCall F 5 (aCons (cVar 2) (aCons (cOp2 wAdd (cVar 1) (cI 1)) (aCons (cI 10) aNil))))) (aCons (cI 0) (aCons (cI 2) aNil)))))))
    (sSeq (sAsg 4 (cCall F 7 (aCons (cVar 3) aNil)))
    (sSeq (sAsg 5 (cCall F 5 (aCons (cVar 2) (aCons (cOp2 wAdd (cVar 1) (cI 2)) (aCons (cOp1 wLen (cVar 4)) aNil)))))
    (sFor (gN 6) (i_law_2 F k) (b_law_2 F k)))))) r
def m_law (F : Fs) (k : Nat) : CS :=
    (sSeq (sFor (gN 1) (i_law_1 F k) (b_law_1 F k))
    (sRet (cAnd (cOp2 (wIsB false) (cMeth F 11 1 (cMake T k 1 (aCons (cS "S") aNil)) (aCons (cS "S") aNil)) (cB true)) (cAnd (cOp2 (wIsB false) (cMeth F 12 2 (cMake T k 2 (aCons (cI 0) aNil)) (aCons (cS "") aNil)) (cB true)) (cOp2 (wIsB false) (cMeth F 12 2 (cMake T k 2 (aCons (cOp1 wNeg (cI 1)) aNil)) (aCons (cS "S") aNil)) (cB false))))))
theorem ok_law (F : Fs) (k : Nat) : OkSs ⟨T, ["_law_script", "_law_by", "_law_cell", "_law_row", "_law_text_here", "_law_at", "_law_one", "_law_place", "_law_mine", "_law_due", "_law_spot"], F, k, defScope s_law⟩ (defBody s_law) (m_law F k) :=
    (okSs_cons (okS_for (okI_rng3 bl_range rfl ok_int (ok_max bl_max rfl ok_int (ok_min bl_min rfl ok_int (ok_len bl_len rfl (ok_var (i := 0) rfl (.inl rfl))))) ok_int) (okG_name 1 rfl (.inl rfl))
    (okSs_cons (okS_asg 2 rfl (.inl rfl) (ok_call 3 rfl rfl rfl (okA_cons (ok_var (i := 0) rfl (.inl rfl)) (okA_cons (ok_var (i := 1) rfl (.inl rfl)) okA_nil))))
    (okSs_cons (okS_asg 3 rfl (.inl rfl) (ok_call 6 rfl rfl rfl (okA_cons (ok_var (i := 0) rfl (.inl rfl)) (okA_cons (ok_var (i := 1) rfl (.inl rfl)) (okA_cons (ok_add ok_int (ok_call 5 rfl rfl rfl (okA_cons (ok_var (i := 2) rfl (.inl rfl)) (okA_cons (ok_add (ok_var (i := 1) rfl (.inl rfl)) ok_int) (okA_cons ok_int okA_nil))))) (okA_cons ok_int (okA_cons ok_int okA_nil)))))))
    (okSs_cons (okS_asg 4 rfl (.inl rfl) (ok_call 7 rfl rfl rfl (okA_cons (ok_var (i := 3) rfl (.inl rfl)) okA_nil)))
    (okSs_cons (okS_asg 5 rfl (.inl rfl) (ok_call 5 rfl rfl rfl (okA_cons (ok_var (i := 2) rfl (.inl rfl)) (okA_cons (ok_add (ok_var (i := 1) rfl (.inl rfl)) ok_int) (okA_cons (ok_len bl_len rfl (ok_var (i := 4) rfl (.inl rfl))) okA_nil)))))
    (okSs_one (okS_for (okI_tup (ok_tup (okA_cons (ok_var (i := 4) rfl (.inl rfl)) (okA_cons (ok_slS (ok_var (i := 4) rfl (.inl rfl)) okO_none (okO_some (ok_var (i := 5) rfl (.inl rfl)))) (okA_cons (ok_add (ok_var (i := 4) rfl (.inl rfl)) ok_str) (okA_cons (ok_add (ok_add (ok_slS (ok_var (i := 4) rfl (.inl rfl)) okO_none (okO_some (ok_var (i := 5) rfl (.inl rfl)))) ok_str) (ok_slS (ok_var (i := 4) rfl (.inl rfl)) (okO_some (ok_var (i := 5) rfl (.inl rfl))) okO_none)) (okA_cons (ok_add ok_str (ok_var (i := 4) rfl (.inl rfl))) okA_nil))))))) (okG_name 6 rfl (.inl rfl))
    (okSs_cons (okS_asg 7 rfl (.inl rfl) (ok_call 9 rfl rfl rfl (okA_cons (ok_var (i := 6) rfl (.inl rfl)) okA_nil)))
    (okSs_cons (okS_for (okI_tup (ok_tup (okA_cons (ok_var (i := 3) rfl (.inl rfl)) (okA_cons (ok_tup (okA_cons ok_str (okA_cons (ok_var (i := 3) rfl (.inl rfl)) okA_nil))) (okA_cons ok_str (okA_cons ok_int (okA_cons (ok_tup (okA_cons ok_str (okA_cons ok_int okA_nil))) (okA_cons (ok_tup (okA_cons (ok_var (i := 3) rfl (.inl rfl)) (okA_cons ok_str okA_nil))) (okA_cons (ok_tup (okA_cons ok_str (okA_cons ok_int okA_nil))) okA_nil))))))))) (okG_name 8 rfl (.inl rfl))
    (okSs_cons (okS_asg 9 rfl (.inl rfl) (ok_and (ok_lt (ok_var (i := 7) rfl (.inl rfl)) ok_int) (ok_one (ok_in (ok_var (i := 8) rfl (.inl rfl)) (ok_tup (okA_cons (ok_var (i := 3) rfl (.inl rfl)) (okA_cons ok_str (okA_cons (ok_tup (okA_cons ok_str (okA_cons (ok_var (i := 3) rfl (.inl rfl)) okA_nil))) (okA_cons (ok_tup (okA_cons (ok_var (i := 3) rfl (.inl rfl)) (okA_cons ok_str okA_nil))) okA_nil)))))))))
    (okSs_cons (okS_asg 9 rfl (.inl rfl) (ok_and (ok_var (i := 9) rfl (.inl rfl)) (ok_one (ok_eq (ok_call 7 rfl rfl rfl (okA_cons (ok_var (i := 8) rfl (.inl rfl)) okA_nil)) (ok_var (i := 6) rfl (.inl rfl))))))
    (okSs_one (okS_if (okT_W (okW_or (okT_ne (ok_att "row" (ok_make 1 rfl rfl (okA_cons (ok_var (i := 8) rfl (.inl rfl)) okA_nil))) (ok_var (i := 8) rfl (.inl rfl))) (okW_one_or (okT_not (okT_val (ok_call 8 rfl rfl rfl (okA_cons (ok_meth 11 1 "shows" rfl nc_1 nf_11 (ok_make 1 rfl rfl (okA_cons (ok_var (i := 8) rfl (.inl rfl)) okA_nil)) (okA_cons (ok_var (i := 6) rfl (.inl rfl)) okA_nil)) (okA_cons (ok_var (i := 9) rfl (.inl rfl)) okA_nil)))))))) (okSs_one (okS_ret ok_bl)) okSs_nil)))))
    (okSs_one (okS_for (okI_tup (ok_tup (okA_cons (ok_var (i := 7) rfl (.inl rfl)) (okA_cons (ok_add (ok_var (i := 7) rfl (.inl rfl)) ok_int) (okA_cons (ok_sub (ok_var (i := 7) rfl (.inl rfl)) ok_int) (okA_cons ok_int (okA_cons (ok_neg ok_int) (okA_cons (ok_pow ok_int ok_int) (okA_cons (ok_len bl_len rfl (ok_var (i := 6) rfl (.inl rfl))) okA_nil))))))))) (okG_name 10 rfl (.inl rfl))
    (okSs_cons (okS_asg 9 rfl (.inl rfl) (ok_and (ok_ge (ok_var (i := 7) rfl (.inl rfl)) ok_int) (ok_one (ok_eq (ok_var (i := 10) rfl (.inl rfl)) (ok_var (i := 7) rfl (.inl rfl))))))
    (okSs_one (okS_if (okT_W (okW_or (okT_ne (ok_att "place" (ok_make 2 rfl rfl (okA_cons (ok_var (i := 10) rfl (.inl rfl)) okA_nil))) (ok_var (i := 10) rfl (.inl rfl))) (okW_one_or (okT_not (okT_val (ok_call 8 rfl rfl rfl (okA_cons (ok_meth 12 2 "shows" rfl nc_2 nf_12 (ok_make 2 rfl rfl (okA_cons (ok_var (i := 10) rfl (.inl rfl)) okA_nil)) (okA_cons (ok_var (i := 6) rfl (.inl rfl)) okA_nil)) (okA_cons (ok_var (i := 9) rfl (.inl rfl)) okA_nil)))))))) (okSs_one (okS_ret ok_bl)) okSs_nil))))))))))))))
    (okSs_one (okS_ret (ok_and (ok_isB (ok_meth 11 1 "shows" rfl nc_1 nf_11 (ok_make 1 rfl rfl (okA_cons ok_str okA_nil)) (okA_cons ok_str okA_nil)) ok_bl) (ok_and (ok_isB (ok_meth 12 2 "shows" rfl nc_2 nf_12 (ok_make 2 rfl rfl (okA_cons ok_int okA_nil)) (okA_cons ok_str okA_nil)) ok_bl) (ok_one (ok_isB (ok_meth 12 2 "shows" rfl nc_2 nf_12 (ok_make 2 rfl rfl (okA_cons (ok_neg ok_int) okA_nil)) (okA_cons ok_str okA_nil)) ok_bl)))))))
abbrev s_Read_shows : Stmt := inClass (topS 5) 1
theorem sc_Read_shows : FnScope ["self", "text"] ["self", "text"] (defScope s_Read_shows) := ⟨rfl, rfl, rfl, by decide +kernel, rfl, by decide +kernel, by decide +kernel⟩
def m_Read_shows (F : Fs) (k : Nat) : CS :=
    (sRet (cAnd (cOp2 wLt (cCall F 1 (aCons (cVar 1) aNil)) (cI 0)) (cOp2 (wEq k) (cCall F 2 (aCons (cVar 1) aNil)) (cAtt T "row" (cVar 0)))))
theorem ok_Read_shows (F : Fs) (k : Nat) : OkSs ⟨T, ["self", "text"], F, k, defScope s_Read_shows⟩ (defBody s_Read_shows) (m_Read_shows F k) :=
    (okSs_one (okS_ret (ok_and (ok_lt (ok_call 1 rfl rfl rfl (okA_cons (ok_var (i := 1) rfl (.inl rfl)) okA_nil)) ok_int) (ok_one (ok_eq (ok_call 2 rfl rfl rfl (okA_cons (ok_var (i := 1) rfl (.inl rfl)) okA_nil)) (ok_att "row" (ok_var (i := 0) rfl (.inl rfl))))))))
abbrev s_Wrong_shows : Stmt := inClass (topS 6) 1
theorem sc_Wrong_shows : FnScope ["self", "text"] ["self", "text"] (defScope s_Wrong_shows) := ⟨rfl, rfl, rfl, by decide +kernel, rfl, by decide +kernel, by decide +kernel⟩
def m_Wrong_shows (F : Fs) (k : Nat) : CS :=
    (sRet (cAnd (cOp2 wGe (cAtt T "place" (cVar 0)) (cI 0)) (cOp2 (wEq k) (cAtt T "place" (cVar 0)) (cCall F 1 (aCons (cVar 1) aNil)))))
theorem ok_Wrong_shows (F : Fs) (k : Nat) : OkSs ⟨T, ["self", "text"], F, k, defScope s_Wrong_shows⟩ (defBody s_Wrong_shows) (m_Wrong_shows F k) :=
    (okSs_one (okS_ret (ok_and (ok_ge (ok_att "place" (ok_var (i := 0) rfl (.inl rfl))) ok_int) (ok_one (ok_eq (ok_att "place" (ok_var (i := 0) rfl (.inl rfl))) (ok_call 1 rfl rfl rfl (okA_cons (ok_var (i := 1) rfl (.inl rfl)) okA_nil)))))))
def tb (F : Fs) (k : Nat) : Nat → List W → Option Res
  | 0 => runD ["thing"] 1 (m_is_maker F k)
  | 1 => runD ["text", "due", "place", "sign"] 1 (m_wrong_of F k)
  | 2 => runD ["text", "found", "sign", "left", "right"] 1 (m_row_of F k)
  | 3 => runD ["_law_script", "_law_k"] 2 (m_law_cell_at F k)
  | 4 => runD ["_law_cell", "_law_k", "_law_most", "_law_primes"] 3 (m_law_draw F k)
  | 5 => runD ["_law_cell", "_law_k", "_law_limit"] 3 (m_law_number F k)
  | 6 => runD ["_law_script", "_law_by", "_law_many", "_law_deep", "_law_sorts", "_law_number_here", "_law_wide", "_law_left", "_law_first"] 5 (m_law_term F k)
  | 7 => runD ["_law_row"] 1 (m_law_text F k)
  | 8 => runD ["_law_said", "_law_due"] 2 (m_law_says F k)
  | 9 => runD ["_law_text_here", "_law_due", "_law_place"] 1 (m_law_wrong F k)
  | 10 => runD ["_law_script", "_law_by", "_law_cell", "_law_row", "_law_text_here", "_law_at", "_law_one", "_law_place", "_law_mine", "_law_due", "_law_spot"] 1 (m_law F k)
  | 11 => runD ["self", "text"] 2 (m_Read_shows F k)
  | 12 => runD ["self", "text"] 2 (m_Wrong_shows F k)
  | _ => fun _ => none
def callAt : Nat → Fs
  | 0 => fun _ _ => none
  | k + 1 => fun i args => tb (callAt k) k i args
theorem c_is_maker (k : Nat) (args : List W) : callAt (k + 1) 0 args = runD ["thing"] 1 (m_is_maker (callAt k) k) args := rfl
theorem c_wrong_of (k : Nat) (args : List W) : callAt (k + 1) 1 args = runD ["text", "due", "place", "sign"] 1 (m_wrong_of (callAt k) k) args := rfl
theorem c_row_of (k : Nat) (args : List W) : callAt (k + 1) 2 args = runD ["text", "found", "sign", "left", "right"] 1 (m_row_of (callAt k) k) args := rfl
theorem c_law_cell_at (k : Nat) (args : List W) : callAt (k + 1) 3 args = runD ["_law_script", "_law_k"] 2 (m_law_cell_at (callAt k) k) args := rfl
theorem c_law_draw (k : Nat) (args : List W) : callAt (k + 1) 4 args = runD ["_law_cell", "_law_k", "_law_most", "_law_primes"] 3 (m_law_draw (callAt k) k) args := rfl
theorem c_law_number (k : Nat) (args : List W) : callAt (k + 1) 5 args = runD ["_law_cell", "_law_k", "_law_limit"] 3 (m_law_number (callAt k) k) args := rfl
theorem c_law_term (k : Nat) (args : List W) : callAt (k + 1) 6 args = runD ["_law_script", "_law_by", "_law_many", "_law_deep", "_law_sorts", "_law_number_here", "_law_wide", "_law_left", "_law_first"] 5 (m_law_term (callAt k) k) args := rfl
theorem c_law_text (k : Nat) (args : List W) : callAt (k + 1) 7 args = runD ["_law_row"] 1 (m_law_text (callAt k) k) args := rfl
theorem c_law_says (k : Nat) (args : List W) : callAt (k + 1) 8 args = runD ["_law_said", "_law_due"] 2 (m_law_says (callAt k) k) args := rfl
theorem c_law_wrong (k : Nat) (args : List W) : callAt (k + 1) 9 args = runD ["_law_text_here", "_law_due", "_law_place"] 1 (m_law_wrong (callAt k) k) args := rfl
theorem c_law (k : Nat) (args : List W) : callAt (k + 1) 10 args = runD ["_law_script", "_law_by", "_law_cell", "_law_row", "_law_text_here", "_law_at", "_law_one", "_law_place", "_law_mine", "_law_due", "_law_spot"] 1 (m_law (callAt k) k) args := rfl
theorem c_Read_shows (k : Nat) (args : List W) : callAt (k + 1) 11 args = runD ["self", "text"] 2 (m_Read_shows (callAt k) k) args := rfl
theorem c_Wrong_shows (k : Nat) (args : List W) : callAt (k + 1) 12 args = runD ["self", "text"] 2 (m_Wrong_shows (callAt k) k) args := rfl
theorem b_is_maker : BindOk "is_maker" "is_maker" s_is_maker ["thing"] := fun _ _ _ _ _ _ us hl => match us, hl with | [_], _ => rfl
theorem b_wrong_of : BindOk "wrong_of" "wrong_of" s_wrong_of ["text"] := fun _ _ _ _ _ _ us hl => match us, hl with | [_], _ => rfl
theorem b_row_of : BindOk "row_of" "row_of" s_row_of ["text"] := fun _ _ _ _ _ _ us hl => match us, hl with | [_], _ => rfl
theorem b_law_cell_at : BindOk "_law_cell_at" "_law_cell_at" s_law_cell_at ["_law_script", "_law_k"] := fun _ _ _ _ _ _ us hl => match us, hl with | [_, _], _ => rfl
theorem b_law_draw : BindOk "_law_draw" "_law_draw" s_law_draw ["_law_cell", "_law_k", "_law_most"] := fun _ _ _ _ _ _ us hl => match us, hl with | [_, _, _], _ => rfl
theorem b_law_number : BindOk "_law_number" "_law_number" s_law_number ["_law_cell", "_law_k", "_law_limit"] := fun _ _ _ _ _ _ us hl => match us, hl with | [_, _, _], _ => rfl
theorem b_law_term : BindOk "_law_term" "_law_term" s_law_term ["_law_script", "_law_by", "_law_many", "_law_deep", "_law_sorts"] := fun _ _ _ _ _ _ us hl => match us, hl with | [_, _, _, _, _], _ => rfl
theorem b_law_text : BindOk "_law_text" "_law_text" s_law_text ["_law_row"] := fun _ _ _ _ _ _ us hl => match us, hl with | [_], _ => rfl
theorem b_law_says : BindOk "_law_says" "_law_says" s_law_says ["_law_said", "_law_due"] := fun _ _ _ _ _ _ us hl => match us, hl with | [_, _], _ => rfl
theorem b_law_wrong : BindOk "_law_wrong" "_law_wrong" s_law_wrong ["_law_text_here"] := fun _ _ _ _ _ _ us hl => match us, hl with | [_], _ => rfl
theorem b_law : BindOk "law" "law" s_law ["_law_script"] := fun _ _ _ _ _ _ us hl => match us, hl with | [_], _ => rfl
theorem b_Read_shows : BindOk "shows" "Read.shows" s_Read_shows ["self", "text"] := fun _ _ _ _ _ _ us hl => match us, hl with | [_, _], _ => rfl
theorem b_Wrong_shows : BindOk "shows" "Wrong.shows" s_Wrong_shows ["self", "text"] := fun _ _ _ _ _ _ us hl => match us, hl with | [_, _], _ => rfl
abbrev s_Read__init_ : Stmt := inClass (topS 5) 0
theorem sc_Read__init_ : FnScope ["self", "row"] ["self", "row"] (defScope s_Read__init_) := ⟨rfl, rfl, rfl, by decide +kernel, rfl, by decide +kernel, by decide +kernel⟩
theorem b_Read__init_ : BindOk "__init__" "Read.__init__" s_Read__init_ ["self", "row"] := fun _ _ _ _ _ _ us hl => match us, hl with | [_, _], _ => rfl
abbrev s_Wrong__init_ : Stmt := inClass (topS 6) 0
theorem sc_Wrong__init_ : FnScope ["self", "place"] ["self", "place"] (defScope s_Wrong__init_) := ⟨rfl, rfl, rfl, by decide +kernel, rfl, by decide +kernel, by decide +kernel⟩
theorem b_Wrong__init_ : BindOk "__init__" "Wrong.__init__" s_Wrong__init_ ["self", "place"] := fun _ _ _ _ _ _ us hl => match us, hl with | [_, _], _ => rfl
theorem tab_ok {K : PySem.W.Frag} {mg : Str → Option Value} {h : Heap} (X : K.In h) (G : h.Ns mainGlobals mg)
    {t0 : Tok} (g0 : PySem.W.nsIn K mainGlobals "MAKERS" = some (some (.str "BCIKS" t0)))
    (z0 : PySem.W.nsIn K mainGlobals "isinstance" = some none)
    (z1 : PySem.W.nsIn K mainGlobals "str" = some none)
    (z2 : PySem.W.nsIn K mainGlobals "len" = some none)
    (z3 : PySem.W.nsIn K mainGlobals "enumerate" = some none)
    (z4 : PySem.W.nsIn K mainGlobals "max" = some none)
    (z5 : PySem.W.nsIn K mainGlobals "tuple" = some none)
    (z6 : PySem.W.nsIn K mainGlobals "bool" = some none)
    (z7 : PySem.W.nsIn K mainGlobals "range" = some none)
    (z8 : PySem.W.nsIn K mainGlobals "min" = some none) : TabOk T mg := by
  refine ⟨fun x v e => ?_, fun x hx => ?_⟩
  · simp only [T] at e
    split at e
    · rename_i q; subst q; cases e; exact ⟨_, PySem.W.mg_of X G g0, ⟨_, rfl⟩⟩
    cases e
  · simp only [T] at hx
    rcases List.mem_cons.mp hx with q | hx
    · rw [q]; exact PySem.W.mg_none_of X G z0
    rcases List.mem_cons.mp hx with q | hx
    · rw [q]; exact PySem.W.mg_none_of X G z1
    rcases List.mem_cons.mp hx with q | hx
    · rw [q]; exact PySem.W.mg_none_of X G z2
    rcases List.mem_cons.mp hx with q | hx
    · rw [q]; exact PySem.W.mg_none_of X G z3
    rcases List.mem_cons.mp hx with q | hx
    · rw [q]; exact PySem.W.mg_none_of X G z4
    rcases List.mem_cons.mp hx with q | hx
    · rw [q]; exact PySem.W.mg_none_of X G z5
    rcases List.mem_cons.mp hx with q | hx
    · rw [q]; exact PySem.W.mg_none_of X G z6
    rcases List.mem_cons.mp hx with q | hx
    · rw [q]; exact PySem.W.mg_none_of X G z7
    rw [List.mem_singleton.mp hx]; exact PySem.W.mg_none_of X G z8
theorem clo_ok {P : Program} {w : World} {K : PySem.W.Frag} {mg : Str → Option Value} {h : Heap} (X : K.In h) (G : h.Ns mainGlobals mg) {base : Heap}
    {C0 : Addr} (A0 : ClsAt K C0 "Answer" [])
    {C1 : Addr} (A1 : ClsAt K C1 "Read" ["row"])
    (I1 : IniAt K C1 "Read.__init__" s_Read__init_ ["self", "row"])
    {C2 : Addr} (A2 : ClsAt K C2 "Wrong" ["place"])
    (I2 : IniAt K C2 "Wrong.__init__" s_Wrong__init_ ["self", "place"]) : ∀ i, i < T.nc → ClOk T P w K mg base i := fun i hi => match i, hi with
    | 0, _ => clo_none X G A0 rfl rfl
    | 1, _ => clo_one X G A1 I1 sc_Read__init_ rfl (.inl rfl) (.inl rfl) rfl rfl
    | 2, _ => clo_one X G A2 I2 sc_Wrong__init_ rfl (.inl rfl) (.inl rfl) rfl rfl
    | n + 3, hi => absurd hi (by show ¬ (n + 3 < 3); omega)
theorem all_ok {P : Program} {w : World} {K : PySem.W.Frag} {mg : Str → Option Value} {h : Heap} (X : K.In h) (G : h.Ns mainGlobals mg) {base : Heap}
    (d0 : DefAt K "is_maker" "is_maker" s_is_maker ["thing"])
    (d1 : DefAt K "wrong_of" "wrong_of" s_wrong_of ["text"])
    (d2 : DefAt K "row_of" "row_of" s_row_of ["text"])
    (d3 : DefAt K "_law_cell_at" "_law_cell_at" s_law_cell_at ["_law_script", "_law_k"])
    (d4 : DefAt K "_law_draw" "_law_draw" s_law_draw ["_law_cell", "_law_k", "_law_most"])
    (d5 : DefAt K "_law_number" "_law_number" s_law_number ["_law_cell", "_law_k", "_law_limit"])
    (d6 : DefAt K "_law_term" "_law_term" s_law_term ["_law_script", "_law_by", "_law_many", "_law_deep", "_law_sorts"])
    (d7 : DefAt K "_law_text" "_law_text" s_law_text ["_law_row"])
    (d8 : DefAt K "_law_says" "_law_says" s_law_says ["_law_said", "_law_due"])
    (d9 : DefAt K "_law_wrong" "_law_wrong" s_law_wrong ["_law_text_here"])
    (d10 : DefAt K "law" "law" s_law ["_law_script"])
    (d11 : MetAt K "Read" "shows" "Read.shows" s_Read_shows ["self", "text"])
    (d12 : MetAt K "Wrong" "shows" "Wrong.shows" s_Wrong_shows ["self", "text"])
    (tab : TabOk T mg) (clo : ∀ i, i < T.nc → ClOk T P w K mg base i) : ∀ (k i : Nat) (args : List W) (r : Res), callAt k i args = some r → Calb T P w K mg base k i args r
  | 0, _, _, _, e => by cases e
  | k + 1, 0, args, r, e => cal_def X G d0 sc_is_maker tab (all_ok X G d0 d1 d2 d3 d4 d5 d6 d7 d8 d9 d10 d11 d12 tab clo k) clo (ok_is_maker _ k) e rfl rfl rfl
  | k + 1, 1, args, r, e => cal_def X G d1 sc_wrong_of tab (all_ok X G d0 d1 d2 d3 d4 d5 d6 d7 d8 d9 d10 d11 d12 tab clo k) clo (ok_wrong_of _ k) e rfl rfl rfl
  | k + 1, 2, args, r, e => cal_def X G d2 sc_row_of tab (all_ok X G d0 d1 d2 d3 d4 d5 d6 d7 d8 d9 d10 d11 d12 tab clo k) clo (ok_row_of _ k) e rfl rfl rfl
  | k + 1, 3, args, r, e => cal_def X G d3 sc_law_cell_at tab (all_ok X G d0 d1 d2 d3 d4 d5 d6 d7 d8 d9 d10 d11 d12 tab clo k) clo (ok_law_cell_at _ k) e rfl rfl rfl
  | k + 1, 4, args, r, e => cal_def X G d4 sc_law_draw tab (all_ok X G d0 d1 d2 d3 d4 d5 d6 d7 d8 d9 d10 d11 d12 tab clo k) clo (ok_law_draw _ k) e rfl rfl rfl
  | k + 1, 5, args, r, e => cal_def X G d5 sc_law_number tab (all_ok X G d0 d1 d2 d3 d4 d5 d6 d7 d8 d9 d10 d11 d12 tab clo k) clo (ok_law_number _ k) e rfl rfl rfl
  | k + 1, 6, args, r, e => cal_def X G d6 sc_law_term tab (all_ok X G d0 d1 d2 d3 d4 d5 d6 d7 d8 d9 d10 d11 d12 tab clo k) clo (ok_law_term _ k) e rfl rfl rfl
  | k + 1, 7, args, r, e => cal_def X G d7 sc_law_text tab (all_ok X G d0 d1 d2 d3 d4 d5 d6 d7 d8 d9 d10 d11 d12 tab clo k) clo (ok_law_text _ k) e rfl rfl rfl
  | k + 1, 8, args, r, e => cal_def X G d8 sc_law_says tab (all_ok X G d0 d1 d2 d3 d4 d5 d6 d7 d8 d9 d10 d11 d12 tab clo k) clo (ok_law_says _ k) e rfl rfl rfl
  | k + 1, 9, args, r, e => cal_def X G d9 sc_law_wrong tab (all_ok X G d0 d1 d2 d3 d4 d5 d6 d7 d8 d9 d10 d11 d12 tab clo k) clo (ok_law_wrong _ k) e rfl rfl rfl
  | k + 1, 10, args, r, e => cal_def X G d10 sc_law tab (all_ok X G d0 d1 d2 d3 d4 d5 d6 d7 d8 d9 d10 d11 d12 tab clo k) clo (ok_law _ k) e rfl rfl rfl
  | k + 1, 11, args, r, e => cal_met X G d11 sc_Read_shows tab (all_ok X G d0 d1 d2 d3 d4 d5 d6 d7 d8 d9 d10 d11 d12 tab clo k) clo (ok_Read_shows _ k) e rfl rfl rfl
  | k + 1, 12, args, r, e => cal_met X G d12 sc_Wrong_shows tab (all_ok X G d0 d1 d2 d3 d4 d5 d6 d7 d8 d9 d10 d11 d12 tab clo k) clo (ok_Wrong_shows _ k) e rfl rfl rfl
  | k + 1, n + 13, args, r, e => by cases e
abbrev LK : Nat := 230
theorem the_law {P : Program} {w : World} {K : PySem.W.Frag} {mg : Str → Option Value} {h : Heap} (X : K.In h) (G : h.Ns mainGlobals mg) {fa : Addr} (hfa : mg "law" = some (.ref fa))
    {t0 : Tok} (g0 : PySem.W.nsIn K mainGlobals "MAKERS" = some (some (.str "BCIKS" t0)))
    (z0 : PySem.W.nsIn K mainGlobals "isinstance" = some none)
    (z1 : PySem.W.nsIn K mainGlobals "str" = some none)
    (z2 : PySem.W.nsIn K mainGlobals "len" = some none)
    (z3 : PySem.W.nsIn K mainGlobals "enumerate" = some none)
    (z4 : PySem.W.nsIn K mainGlobals "max" = some none)
    (z5 : PySem.W.nsIn K mainGlobals "tuple" = some none)
    (z6 : PySem.W.nsIn K mainGlobals "bool" = some none)
    (z7 : PySem.W.nsIn K mainGlobals "range" = some none)
    (z8 : PySem.W.nsIn K mainGlobals "min" = some none)
    {C0 : Addr} (A0 : ClsAt K C0 "Answer" [])
    {C1 : Addr} (A1 : ClsAt K C1 "Read" ["row"])
    (I1 : IniAt K C1 "Read.__init__" s_Read__init_ ["self", "row"])
    {C2 : Addr} (A2 : ClsAt K C2 "Wrong" ["place"])
    (I2 : IniAt K C2 "Wrong.__init__" s_Wrong__init_ ["self", "place"])
    (d0 : DefAt K "is_maker" "is_maker" s_is_maker ["thing"])
    (d1 : DefAt K "wrong_of" "wrong_of" s_wrong_of ["text"])
    (d2 : DefAt K "row_of" "row_of" s_row_of ["text"])
    (d3 : DefAt K "_law_cell_at" "_law_cell_at" s_law_cell_at ["_law_script", "_law_k"])
    (d4 : DefAt K "_law_draw" "_law_draw" s_law_draw ["_law_cell", "_law_k", "_law_most"])
    (d5 : DefAt K "_law_number" "_law_number" s_law_number ["_law_cell", "_law_k", "_law_limit"])
    (d6 : DefAt K "_law_term" "_law_term" s_law_term ["_law_script", "_law_by", "_law_many", "_law_deep", "_law_sorts"])
    (d7 : DefAt K "_law_text" "_law_text" s_law_text ["_law_row"])
    (d8 : DefAt K "_law_says" "_law_says" s_law_says ["_law_said", "_law_due"])
    (d9 : DefAt K "_law_wrong" "_law_wrong" s_law_wrong ["_law_text_here"])
    (d10 : DefAt K "law" "law" s_law ["_law_script"])
    (d11 : MetAt K "Read" "shows" "Read.shows" s_Read_shows ["self", "text"])
    (d12 : MetAt K "Wrong" "shows" "Wrong.shows" s_Wrong_shows ["self", "text"])
    (main : ∀ ns : List Int, ns.length ≤ 63 → (∀ z ∈ ns, Builtin.Int.intBits z ≤ 1048576) → callAt (LK + 1) 10 (inp ns) = some yes) :
    ∃ fd : FuncData, (∀ (s : Shared) (u : Value), BindsTo s fd ⟨[u], []⟩ [("_law_script", u)]) ∧ ∀ base : Heap, K.In base → base.Ns mainGlobals mg → FnOk P w K mg base CX0 (LK + 1) fa fd ["_law_script"] (spLaw K) := by
  have tab := tab_ok X G g0 z0 z1 z2 z3 z4 z5 z6 z7 z8
  have clo : ∀ base : Heap, ∀ i, i < T.nc → ClOk T P w K mg base i := fun base => clo_ok X G A0 A1 I1 A2 I2
  exact law_fn (k := LK) X G hfa d10 sc_law tab (fun base => all_ok X G d0 d1 d2 d3 d4 d5 d6 d7 d8 d9 d10 d11 d12 tab (clo base) LK) clo (ok_law _ LK) main
end R
namespace R
open PySem L2 Nm
/-- the script -/
def scr (ns : List Int) : W := .d (.list (ns.map .int))
def okScr (ns : List Int) : Prop := ns.length ≤ 63 ∧ ∀ z ∈ ns, Builtin.Int.intBits z ≤ 1048576
theorem atI_map (ns : List Int) (i : Int) (h0 : 0 ≤ i) (h1 : i < ns.length) : ∃ z ∈ ns, atI (ns.map PyData.int) i = some (.int z) := by
  have hl : i.toNat < ns.length := by omega
  refine ⟨ns[i.toNat], List.getElem_mem hl, ?_⟩
  unfold atI ixN
  rw [List.length_map, if_pos h0, if_pos h1]
  show (ns.map PyData.int)[i.toNat]? = _
  rw [List.getElem?_map, List.getElem?_eq_getElem hl]
  rfl
theorem cell_ok {ns : List Int} (hs : okScr ns) (k : Nat) (hk : 1 ≤ k) (i : Int) (hi : 0 ≤ i) : ∃ z : Int, Builtin.Int.intBits z ≤ 1048576 ∧ callAt k 3 [scr ns, .d (.int i)] = some (.w (.d (.int z))) := by
  obtain ⟨k, rfl⟩ : ∃ j, k = j + 1 := ⟨k - 1, by omega⟩
  rw [c_law_cell_at]
  by_cases h : i < ns.length
  · obtain ⟨z, hz, e⟩ := atI_map ns i hi h
    refine ⟨z, hs.2 z hz, ?_⟩
    simp only [runD, rho0, sSeq, sIf, sRet, sRetL, sRetO, sAsg, sAsgL, sAsgO, sAug, sPar, sNil, sNever, sBreak, sCont, cVar, rd, cD, cOp1, cOp2, cT, wB, qAnd, qOr, qNot, cAnd, cOr, cNot, cIf, aNil, aCons, wDs, cTup, lLst, cL, wII, wIC, wAdd, wLen, wIsi, isTup, isStr, isInt, isBool, isLst, cCall, lCall, Res.val, W.im, imm, imms, noOwn, wIx_t0, wIx_t1, wEq_int, wNe_int, List.length_cons, List.length_nil, List.map_cons, List.map_nil, List.replicate_succ, List.replicate_zero, List.cons_append, List.nil_append, List.append_nil, List.getElem?_cons_zero, List.getElem?_cons_succ, List.set_cons_zero, List.set_cons_succ, List.all_cons, List.all_nil, ↓reduceIte, Bool.or_true, Bool.true_or, Bool.or_false, Bool.false_or, Bool.and_true, Bool.true_and, Bool.and_false, Bool.false_and, Bool.not_true, Bool.not_false, if_true, if_false, Bool.false_eq_true, Nat.zero_add, Nat.add_zero, Nat.reduceAdd, Nat.reduceSub, Nat.reduceMul, Nat.reduceLeDiff, Nat.reduceEqDiff, Int.reduceAdd, Int.reduceSub, Int.reduceNeg, Int.reduceMul, Int.reduceLT, Int.reduceLE, Int.reduceEq, decide_true, decide_false, and_self, true_and, and_true, and_false, false_and, or_true, true_or, or_false, false_or, not_true_eq_false, not_false_eq_true, imm_d, cAtt_eq, cMake_eq, cMeth, vD, vI, vB, vS, vT, wAtt_Read_row, wMake_Read, wAtt_Wrong_place, wMake_Wrong, m_law_cell_at, scr, List.length_map, h, decide_true, wIx, e]
  · refine ⟨0, by decide, ?_⟩
    simp only [runD, rho0, sSeq, sIf, sRet, sRetL, sRetO, sAsg, sAsgL, sAsgO, sAug, sPar, sNil, sNever, sBreak, sCont, cVar, rd, cD, cOp1, cOp2, cT, wB, qAnd, qOr, qNot, cAnd, cOr, cNot, cIf, aNil, aCons, wDs, cTup, lLst, cL, wII, wIC, wAdd, wLen, wIsi, isTup, isStr, isInt, isBool, isLst, cCall, lCall, Res.val, W.im, imm, imms, noOwn, wIx_t0, wIx_t1, wEq_int, wNe_int, List.length_cons, List.length_nil, List.map_cons, List.map_nil, List.replicate_succ, List.replicate_zero, List.cons_append, List.nil_append, List.append_nil, List.getElem?_cons_zero, List.getElem?_cons_succ, List.set_cons_zero, List.set_cons_succ, List.all_cons, List.all_nil, ↓reduceIte, Bool.or_true, Bool.true_or, Bool.or_false, Bool.false_or, Bool.and_true, Bool.true_and, Bool.and_false, Bool.false_and, Bool.not_true, Bool.not_false, if_true, if_false, Bool.false_eq_true, Nat.zero_add, Nat.add_zero, Nat.reduceAdd, Nat.reduceSub, Nat.reduceMul, Nat.reduceLeDiff, Nat.reduceEqDiff, Int.reduceAdd, Int.reduceSub, Int.reduceNeg, Int.reduceMul, Int.reduceLT, Int.reduceLE, Int.reduceEq, decide_true, decide_false, and_self, true_and, and_true, and_false, false_and, or_true, true_or, or_false, false_or, not_true_eq_false, not_false_eq_true, imm_d, cAtt_eq, cMake_eq, cMeth, vD, vI, vB, vS, vT, wAtt_Read_row, wMake_Read, wAtt_Wrong_place, wMake_Wrong, m_law_cell_at, scr, List.length_map, h, decide_false]
theorem mulR (i : Int) {j : Int} (h : j.natAbs < 2 ^ 64) : MulC i j := .inr (.inl (bits_lt.mpr h))
theorem mulL {i : Int} (j : Int) (h : i.natAbs < 2 ^ 64) : MulC i j := .inl (bits_lt.mpr h)
def prs : List Int := [1000003, 1000033, 1000037, 1000039, 1000081, 1000099, 1000117, 1000121, 1000133, 1000151, 1000159, 1000171, 1000183, 1000187, 1000193, 1000199]
theorem prs_at (j : Int) : ∃ p : Int, 0 < p ∧ atI [PyData.int 1000003, .int 1000033, .int 1000037, .int 1000039, .int 1000081, .int 1000099, .int 1000117, .int 1000121, .int 1000133, .int 1000151, .int 1000159, .int 1000171, .int 1000183, .int 1000187, .int 1000193, .int 1000199] (j % 16) = some (.int p) := by
  obtain ⟨z, hz, e⟩ := atI_map prs (j % 16) (by omega) (by simp only [prs, List.length_cons, List.length_nil]; omega)
  refine ⟨z, ?_, e⟩
  have : ∀ z ∈ prs, 0 < z := by decide
  exact this z hz
theorem draw_ok (k : Nat) (hk : 1 ≤ k) (cell i most : Int) (hi : i.natAbs < 2 ^ 64) (hm : 0 < most) : ∃ z : Int, 0 ≤ z ∧ z < most ∧ callAt k 4 [.d (.int cell), .d (.int i), .d (.int most)] = some (.w (.d (.int z))) := by
  obtain ⟨k, rfl⟩ : ∃ j, k = j + 1 := ⟨k - 1, by omega⟩
  obtain ⟨p, hp, e⟩ := prs_at i
  refine ⟨(cell * 48271 + i * 69621) % p % most, Int.emod_nonneg _ (by omega), Int.emod_lt_of_pos _ hm, ?_⟩
  rw [c_law_draw]
  have h1 : MulC cell 48271 := mulR _ (by decide)
  have h2 : MulC i 69621 := mulR _ (by decide)
  have h3 : (0 : Int) < 16 := by decide
  simp only [runD, rho0, sSeq, sIf, sRet, sRetL, sRetO, sAsg, sAsgL, sAsgO, sAug, sPar, sNil, sNever, sBreak, sCont, cVar, rd, cD, cOp1, cOp2, cT, wB, qAnd, qOr, qNot, cAnd, cOr, cNot, cIf, aNil, aCons, wDs, cTup, lLst, cL, wII, wIC, wAdd, wLen, wIsi, isTup, isStr, isInt, isBool, isLst, cCall, lCall, Res.val, W.im, imm, imms, noOwn, wIx_t0, wIx_t1, wEq_int, wNe_int, List.length_cons, List.length_nil, List.map_cons, List.map_nil, List.replicate_succ, List.replicate_zero, List.cons_append, List.nil_append, List.append_nil, List.getElem?_cons_zero, List.getElem?_cons_succ, List.set_cons_zero, List.set_cons_succ, List.all_cons, List.all_nil, ↓reduceIte, Bool.or_true, Bool.true_or, Bool.or_false, Bool.false_or, Bool.and_true, Bool.true_and, Bool.and_false, Bool.false_and, Bool.not_true, Bool.not_false, if_true, if_false, Bool.false_eq_true, Nat.zero_add, Nat.add_zero, Nat.reduceAdd, Nat.reduceSub, Nat.reduceMul, Nat.reduceLeDiff, Nat.reduceEqDiff, Int.reduceAdd, Int.reduceSub, Int.reduceNeg, Int.reduceMul, Int.reduceLT, Int.reduceLE, Int.reduceEq, decide_true, decide_false, and_self, true_and, and_true, and_false, false_and, or_true, true_or, or_false, false_or, not_true_eq_false, not_false_eq_true, imm_d, cAtt_eq, cMake_eq, cMeth, vD, vI, vB, vS, vT, wAtt_Read_row, wMake_Read, wAtt_Wrong_place, wMake_Wrong, m_law_draw, h1, h2, h3, wIx, e, hp, hm]
theorem sevens_at (j : Int) : ∃ p : Int, 0 < p ∧ p < 1073741824 ∧ atI [PyData.int 1, .int 7, .int 49, .int 343, .int 2401] (j % 5) = some (.int p) := by
  obtain ⟨z, hz, e⟩ := atI_map [1, 7, 49, 343, 2401] (j % 5) (by omega) (by simp only [List.length_cons, List.length_nil]; omega)
  refine ⟨z, ?_, ?_, e⟩
  · have : ∀ z ∈ [1, 7, 49, 343, (2401 : Int)], 0 < z := by decide
    exact this z hz
  · have : ∀ z ∈ [1, 7, 49, 343, (2401 : Int)], z < 1073741824 := by decide
    exact this z hz
theorem number_ok (k : Nat) (hk : 2 ≤ k) (cell i lim : Int) (hc : Builtin.Int.intBits cell ≤ 1100000) (hi : i.natAbs < 2 ^ 40) (hm : 0 < lim) : ∃ z : Int, 0 ≤ z ∧ z < lim ∧ callAt k 5 [.d (.int cell), .d (.int i), .d (.int lim)] = some (.w (.d (.int z))) := by
  obtain ⟨k, rfl⟩ : ∃ j, k = j + 1 := ⟨k - 1, by omega⟩
  rw [c_law_number]
  have p1 : (0 : Int) ≤ 18 ∧ (18 : Int) ≤ 1000000 ∧ (10 : Int).natAbs < 2 ^ 64 := by decide
  have p2 : (0 : Int) < 5 := by decide
  have p3 : (0 : Int) < 9 := by decide
  have p4 : MulC 977 i := mulL _ (by decide)
  have p5 : MulC 31 i := mulL _ (by decide)
  obtain ⟨p, hp, hp2, e⟩ := sevens_at i
  by_cases h : 10 ^ Int.toNat 18 ≤ cell
  · refine ⟨(cell - 10 ^ Int.toNat 18) / p % lim, Int.emod_nonneg _ (by omega), Int.emod_lt_of_pos _ hm, ?_⟩
    simp only [runD, rho0, sSeq, sIf, sRet, sRetL, sRetO, sAsg, sAsgL, sAsgO, sAug, sPar, sNil, sNever, sBreak, sCont, cVar, rd, cD, cOp1, cOp2, cT, wB, qAnd, qOr, qNot, cAnd, cOr, cNot, cIf, aNil, aCons, wDs, cTup, lLst, cL, wII, wIC, wAdd, wLen, wIsi, isTup, isStr, isInt, isBool, isLst, cCall, lCall, Res.val, W.im, imm, imms, noOwn, wIx_t0, wIx_t1, wEq_int, wNe_int, List.length_cons, List.length_nil, List.map_cons, List.map_nil, List.replicate_succ, List.replicate_zero, List.cons_append, List.nil_append, List.append_nil, List.getElem?_cons_zero, List.getElem?_cons_succ, List.set_cons_zero, List.set_cons_succ, List.all_cons, List.all_nil, ↓reduceIte, Bool.or_true, Bool.true_or, Bool.or_false, Bool.false_or, Bool.and_true, Bool.true_and, Bool.and_false, Bool.false_and, Bool.not_true, Bool.not_false, if_true, if_false, Bool.false_eq_true, Nat.zero_add, Nat.add_zero, Nat.reduceAdd, Nat.reduceSub, Nat.reduceMul, Nat.reduceLeDiff, Nat.reduceEqDiff, Int.reduceAdd, Int.reduceSub, Int.reduceNeg, Int.reduceMul, Int.reduceLT, Int.reduceLE, Int.reduceEq, decide_true, decide_false, and_self, true_and, and_true, and_false, false_and, or_true, true_or, or_false, false_or, not_true_eq_false, not_false_eq_true, imm_d, cAtt_eq, cMake_eq, cMeth, vD, vI, vB, vS, vT, wAtt_Read_row, wMake_Read, wAtt_Wrong_place, wMake_Wrong, m_law_number, p1, h, decide_true, wIx, e, p2, hp, hp2, hm, and_self]
  · have b1 : Builtin.Int.intBits (cell + 977 * i) ≤ 1100001 := bits_add hc (bits_small (m := 50) (by omega) (by decide))
    have b2 : Builtin.Int.intBits (cell + 31 * i) ≤ 1100001 := bits_add hc (bits_small (m := 50) (by omega) (by decide))
    have b3 : Builtin.Int.intBits (cell + 31 * i + 5) ≤ 1100002 := bits_add b2 (bits_small (m := 3) (by decide) (by decide))
    have p6 : MulC (cell + 977 * i) (cell + 31 * i + 5) := .inr (.inr (by omega))
    obtain ⟨z, h1, h2, h3⟩ := draw_ok k (by omega) ((cell + 977 * i) * (cell + 31 * i + 5)) (i % 9 + 1) 999983 (by omega) (by decide)
    refine ⟨z % lim, Int.emod_nonneg _ (by omega), Int.emod_lt_of_pos _ hm, ?_⟩
    simp only [runD, rho0, sSeq, sIf, sRet, sRetL, sRetO, sAsg, sAsgL, sAsgO, sAug, sPar, sNil, sNever, sBreak, sCont, cVar, rd, cD, cOp1, cOp2, cT, wB, qAnd, qOr, qNot, cAnd, cOr, cNot, cIf, aNil, aCons, wDs, cTup, lLst, cL, wII, wIC, wAdd, wLen, wIsi, isTup, isStr, isInt, isBool, isLst, cCall, lCall, Res.val, W.im, imm, imms, noOwn, wIx_t0, wIx_t1, wEq_int, wNe_int, List.length_cons, List.length_nil, List.map_cons, List.map_nil, List.replicate_succ, List.replicate_zero, List.cons_append, List.nil_append, List.append_nil, List.getElem?_cons_zero, List.getElem?_cons_succ, List.set_cons_zero, List.set_cons_succ, List.all_cons, List.all_nil, ↓reduceIte, Bool.or_true, Bool.true_or, Bool.or_false, Bool.false_or, Bool.and_true, Bool.true_and, Bool.and_false, Bool.false_and, Bool.not_true, Bool.not_false, if_true, if_false, Bool.false_eq_true, Nat.zero_add, Nat.add_zero, Nat.reduceAdd, Nat.reduceSub, Nat.reduceMul, Nat.reduceLeDiff, Nat.reduceEqDiff, Int.reduceAdd, Int.reduceSub, Int.reduceNeg, Int.reduceMul, Int.reduceLT, Int.reduceLE, Int.reduceEq, decide_true, decide_false, and_self, true_and, and_true, and_false, false_and, or_true, true_or, or_false, false_or, not_true_eq_false, not_false_eq_true, imm_d, cAtt_eq, cMake_eq, cMeth, vD, vI, vB, vS, vT, wAtt_Read_row, wMake_Read, wAtt_Wrong_place, wMake_Wrong, m_law_number, p1, h, decide_false, p3, p4, p5, p6, h3, hm]
/-- by a cell and so much more -/
theorem bits_31 {z b : Int} (hz : Builtin.Int.intBits z ≤ 1048576) (hb : b.natAbs < 2 ^ 250) : Builtin.Int.intBits (z + 31 * b) ≤ 1100000 := by
  refine bits_mono (bits_add (n := 1048576) hz (bits_small (m := 255) ?_ (by decide))) (by decide)
  omega

end R
namespace R
open PySem L2 Nm
theorem maker_at (j : Int) : ∃ m : Mkr, atI (("BCIKS" : Str).cps.toList) (j % 5) = some m.c := by
  have e : ("BCIKS" : Str).cps.toList = [66, 67, 73, 75, 83] := by decide +kernel
  rw [e]
  have h : j % 5 = 0 ∨ j % 5 = 1 ∨ j % 5 = 2 ∨ j % 5 = 3 ∨ j % 5 = 4 := by omega
  rcases h with h | h | h | h | h <;> rw [h]
  · exact ⟨.B, rfl⟩
  · exact ⟨.C, rfl⟩
  · exact ⟨.I, rfl⟩
  · exact ⟨.K, rfl⟩
  · exact ⟨.S, rfl⟩
theorem mk_s (m : Mkr) : (⟨#[m.c]⟩ : Str) = m.s := by cases m <;> decide +kernel
theorem len_BCIKS : ("BCIKS" : Str).length = 5 := by decide +kernel
theorem term_ok {ns : List Int} (hs : okScr ns) : ∀ (n k : Nat) (b many deep sorts : Int) (e : Nat), many.toNat + (3 - deep).toNat ≤ n → n + 3 ≤ k → 0 ≤ b → (b + 2).natAbs < 2 ^ e → e + n ≤ 249 → 1 ≤ many → many ≤ 1000 → 0 ≤ deep → deep ≤ 3 → 0 ≤ sorts → sorts ≤ 2 →
    ∃ t : Tm, Drawn sorts deep.toNat many.toNat t ∧ callAt k 6 [scr ns, .d (.int b), .d (.int many), .d (.int deep), .d (.int sorts)] = some (.w (.d t.d)) := by
  intro n
  induction n with
  | zero => intro k b many deep sorts e h1 h2 h3 h4 h5 h6; omega
  | succ n ih =>
    intro k b many deep sorts e h1 h2 h3 h4 h5 h6 h7 h8 h9 h10 h11
    obtain ⟨k, rfl⟩ : ∃ j, k = j + 1 := ⟨k - 1, by omega⟩
    obtain ⟨z, hz, ez⟩ := cell_ok hs k (by omega) (b % 63) (by omega)
    have hb : b.natAbs < 2 ^ 250 := Nat.lt_of_lt_of_le (Nat.lt_of_le_of_lt (by omega) h4) (Nat.pow_le_pow_right (by decide) (by omega))
    obtain ⟨u, hu0, hu1, eu⟩ := number_ok k (by omega) (z + 31 * b) (b % 97 + many) (10 ^ Int.toNat 9) (bits_31 hz hb) (by omega) (by decide)
    have p63 : (0 : Int) < 63 := by decide
    have p97 : (0 : Int) < 97 := by decide
    have p31 : MulC 31 b := mulL _ (by decide)
    have p9 : (0 : Int) ≤ 9 ∧ (9 : Int) ≤ 1000000 ∧ (10 : Int).natAbs < 2 ^ 64 := by decide
    have q3 : (0 : Int) < 3 := by decide
    have q5 : (0 : Int) < 5 := by decide
    have d3 : (0 : Int) < 3 ∧ (3 : Int) < 1073741824 := by decide
    have d9 : (0 : Int) < 9 ∧ (9 : Int) < 1073741824 := by decide
    have d45 : (0 : Int) < 45 ∧ (45 : Int) < 1073741824 := by decide
    have d225 : (0 : Int) < 225 ∧ (225 : Int) < 1073741824 := by decide
    have m2 : MulC 2 b := mulL _ (by decide)
    have b1 : (2 * b + 1 + 2).natAbs < 2 ^ (e + 1) := by rw [Nat.pow_succ]; omega
    have b2 : (2 * b + 2 + 2).natAbs < 2 ^ (e + 1) := by rw [Nat.pow_succ]; omega
    rw [c_law_term]
    by_cases c1 : sorts < 2 ∧ deep < 3 ∧ u % 3 = 0
    · obtain ⟨t, ht, et⟩ := ih k (2 * b + 1) many (deep + 1) sorts (e + 1) (by omega) (by omega) (by omega) b1 (by omega) h6 h7 (by omega) (by omega) h10 h11
      refine ⟨.fn t, .fn c1.1 (by omega) (by rw [show deep.toNat + 1 = (deep + 1).toNat by omega]; exact ht), ?_⟩
      simp only [runD, rho0, sSeq, sIf, sRet, sRetL, sRetO, sAsg, sAsgL, sAsgO, sAug, sPar, sNil, sNever, sBreak, sCont, cVar, rd, cD, cOp1, cOp2, cT, wB, qAnd, qOr, qNot, cAnd, cOr, cNot, cIf, aNil, aCons, wDs, cTup, lLst, cL, wII, wIC, wAdd, wLen, wIsi, isTup, isStr, isInt, isBool, isLst, cCall, lCall, Res.val, W.im, imm, imms, noOwn, wIx_t0, wIx_t1, wEq_int, wNe_int, List.length_cons, List.length_nil, List.map_cons, List.map_nil, List.replicate_succ, List.replicate_zero, List.cons_append, List.nil_append, List.append_nil, List.getElem?_cons_zero, List.getElem?_cons_succ, List.set_cons_zero, List.set_cons_succ, List.all_cons, List.all_nil, ↓reduceIte, Bool.or_true, Bool.true_or, Bool.or_false, Bool.false_or, Bool.and_true, Bool.true_and, Bool.and_false, Bool.false_and, Bool.not_true, Bool.not_false, if_true, if_false, Bool.false_eq_true, Nat.zero_add, Nat.add_zero, Nat.reduceAdd, Nat.reduceSub, Nat.reduceMul, Nat.reduceLeDiff, Nat.reduceEqDiff, Int.reduceAdd, Int.reduceSub, Int.reduceNeg, Int.reduceMul, Int.reduceLT, Int.reduceLE, Int.reduceEq, decide_true, decide_false, and_self, true_and, and_true, and_false, false_and, or_true, true_or, or_false, false_or, not_true_eq_false, not_false_eq_true, imm_d, cAtt_eq, cMake_eq, cMeth, vD, vI, vB, vS, vT, wAtt_Read_row, wMake_Read, wAtt_Wrong_place, wMake_Wrong, m_law_term, p63, ez, p31, p97, p9, eu, q3, c1.1, c1.2.1, c1.2.2, decide_true, m2, et, Tm.d]
    · have c1' : ∀ g h : CS, sIf (qAnd (cT (cOp2 wLt (cVar 4) (cI 2))) (qAnd (cT (cOp2 wLt (cVar 3) (cI 3))) (cT (cOp2 (wEq k) (cOp2 wMod (cVar 5) (cI 3)) (cI 0))))) g h [some (.w (scr ns)), some (.w (.d (.int b))), some (.w (.d (.int many))), some (.w (.d (.int deep))), some (.w (.d (.int sorts))), some (.w (.d (.int u))), none, none, none] =
          h [some (.w (scr ns)), some (.w (.d (.int b))), some (.w (.d (.int many))), some (.w (.d (.int deep))), some (.w (.d (.int sorts))), some (.w (.d (.int u))), none, none, none] := fun g h => by
        by_cases x1 : sorts < 2
        · by_cases x2 : deep < 3
          · have x3 : ¬ u % 3 = 0 := fun x3 => c1 ⟨x1, x2, x3⟩
            simp only [runD, rho0, sSeq, sIf, sRet, sRetL, sRetO, sAsg, sAsgL, sAsgO, sAug, sPar, sNil, sNever, sBreak, sCont, cVar, rd, cD, cOp1, cOp2, cT, wB, qAnd, qOr, qNot, cAnd, cOr, cNot, cIf, aNil, aCons, wDs, cTup, lLst, cL, wII, wIC, wAdd, wLen, wIsi, isTup, isStr, isInt, isBool, isLst, cCall, lCall, Res.val, W.im, imm, imms, noOwn, wIx_t0, wIx_t1, wEq_int, wNe_int, List.length_cons, List.length_nil, List.map_cons, List.map_nil, List.replicate_succ, List.replicate_zero, List.cons_append, List.nil_append, List.append_nil, List.getElem?_cons_zero, List.getElem?_cons_succ, List.set_cons_zero, List.set_cons_succ, List.all_cons, List.all_nil, ↓reduceIte, Bool.or_true, Bool.true_or, Bool.or_false, Bool.false_or, Bool.and_true, Bool.true_and, Bool.and_false, Bool.false_and, Bool.not_true, Bool.not_false, if_true, if_false, Bool.false_eq_true, Nat.zero_add, Nat.add_zero, Nat.reduceAdd, Nat.reduceSub, Nat.reduceMul, Nat.reduceLeDiff, Nat.reduceEqDiff, Int.reduceAdd, Int.reduceSub, Int.reduceNeg, Int.reduceMul, Int.reduceLT, Int.reduceLE, Int.reduceEq, decide_true, decide_false, and_self, true_and, and_true, and_false, false_and, or_true, true_or, or_false, false_or, not_true_eq_false, not_false_eq_true, imm_d, cAtt_eq, cMake_eq, cMeth, vD, vI, vB, vS, vT, wAtt_Read_row, wMake_Read, wAtt_Wrong_place, wMake_Wrong, x1, x2, x3, q3]
          · simp only [runD, rho0, sSeq, sIf, sRet, sRetL, sRetO, sAsg, sAsgL, sAsgO, sAug, sPar, sNil, sNever, sBreak, sCont, cVar, rd, cD, cOp1, cOp2, cT, wB, qAnd, qOr, qNot, cAnd, cOr, cNot, cIf, aNil, aCons, wDs, cTup, lLst, cL, wII, wIC, wAdd, wLen, wIsi, isTup, isStr, isInt, isBool, isLst, cCall, lCall, Res.val, W.im, imm, imms, noOwn, wIx_t0, wIx_t1, wEq_int, wNe_int, List.length_cons, List.length_nil, List.map_cons, List.map_nil, List.replicate_succ, List.replicate_zero, List.cons_append, List.nil_append, List.append_nil, List.getElem?_cons_zero, List.getElem?_cons_succ, List.set_cons_zero, List.set_cons_succ, List.all_cons, List.all_nil, ↓reduceIte, Bool.or_true, Bool.true_or, Bool.or_false, Bool.false_or, Bool.and_true, Bool.true_and, Bool.and_false, Bool.false_and, Bool.not_true, Bool.not_false, if_true, if_false, Bool.false_eq_true, Nat.zero_add, Nat.add_zero, Nat.reduceAdd, Nat.reduceSub, Nat.reduceMul, Nat.reduceLeDiff, Nat.reduceEqDiff, Int.reduceAdd, Int.reduceSub, Int.reduceNeg, Int.reduceMul, Int.reduceLT, Int.reduceLE, Int.reduceEq, decide_true, decide_false, and_self, true_and, and_true, and_false, false_and, or_true, true_or, or_false, false_or, not_true_eq_false, not_false_eq_true, imm_d, cAtt_eq, cMake_eq, cMeth, vD, vI, vB, vS, vT, wAtt_Read_row, wMake_Read, wAtt_Wrong_place, wMake_Wrong, x1, x2]
        · simp only [runD, rho0, sSeq, sIf, sRet, sRetL, sRetO, sAsg, sAsgL, sAsgO, sAug, sPar, sNil, sNever, sBreak, sCont, cVar, rd, cD, cOp1, cOp2, cT, wB, qAnd, qOr, qNot, cAnd, cOr, cNot, cIf, aNil, aCons, wDs, cTup, lLst, cL, wII, wIC, wAdd, wLen, wIsi, isTup, isStr, isInt, isBool, isLst, cCall, lCall, Res.val, W.im, imm, imms, noOwn, wIx_t0, wIx_t1, wEq_int, wNe_int, List.length_cons, List.length_nil, List.map_cons, List.map_nil, List.replicate_succ, List.replicate_zero, List.cons_append, List.nil_append, List.append_nil, List.getElem?_cons_zero, List.getElem?_cons_succ, List.set_cons_zero, List.set_cons_succ, List.all_cons, List.all_nil, ↓reduceIte, Bool.or_true, Bool.true_or, Bool.or_false, Bool.false_or, Bool.and_true, Bool.true_and, Bool.and_false, Bool.false_and, Bool.not_true, Bool.not_false, if_true, if_false, Bool.false_eq_true, Nat.zero_add, Nat.add_zero, Nat.reduceAdd, Nat.reduceSub, Nat.reduceMul, Nat.reduceLeDiff, Nat.reduceEqDiff, Int.reduceAdd, Int.reduceSub, Int.reduceNeg, Int.reduceMul, Int.reduceLT, Int.reduceLE, Int.reduceEq, decide_true, decide_false, and_self, true_and, and_true, and_false, false_and, or_true, true_or, or_false, false_or, not_true_eq_false, not_false_eq_true, imm_d, cAtt_eq, cMake_eq, cMeth, vD, vI, vB, vS, vT, wAtt_Read_row, wMake_Read, wAtt_Wrong_place, wMake_Wrong, x1]
      have st : sAsg 5 (cCall (callAt k) 5 (aCons (cOp2 wAdd (cCall (callAt k) 3 (aCons (cVar 0) (aCons (cOp2 wMod (cVar 1) (cI 63)) aNil))) (cOp2 wMul (cI 31) (cVar 1))) (aCons (cOp2 wAdd (cOp2 wMod (cVar 1) (cI 97)) (cVar 2)) (aCons (cOp2 wPow (cI 10) (cI 9)) aNil)))) [some (.w (scr ns)), some (.w (.d (.int b))), some (.w (.d (.int many))), some (.w (.d (.int deep))), some (.w (.d (.int sorts))), none, none, none, none] =
          some (.nx [some (.w (scr ns)), some (.w (.d (.int b))), some (.w (.d (.int many))), some (.w (.d (.int deep))), some (.w (.d (.int sorts))), some (.w (.d (.int u))), none, none, none]) := by
        simp only [runD, rho0, sSeq, sIf, sRet, sRetL, sRetO, sAsg, sAsgL, sAsgO, sAug, sPar, sNil, sNever, sBreak, sCont, cVar, rd, cD, cOp1, cOp2, cT, wB, qAnd, qOr, qNot, cAnd, cOr, cNot, cIf, aNil, aCons, wDs, cTup, lLst, cL, wII, wIC, wAdd, wLen, wIsi, isTup, isStr, isInt, isBool, isLst, cCall, lCall, Res.val, W.im, imm, imms, noOwn, wIx_t0, wIx_t1, wEq_int, wNe_int, List.length_cons, List.length_nil, List.map_cons, List.map_nil, List.replicate_succ, List.replicate_zero, List.cons_append, List.nil_append, List.append_nil, List.getElem?_cons_zero, List.getElem?_cons_succ, List.set_cons_zero, List.set_cons_succ, List.all_cons, List.all_nil, ↓reduceIte, Bool.or_true, Bool.true_or, Bool.or_false, Bool.false_or, Bool.and_true, Bool.true_and, Bool.and_false, Bool.false_and, Bool.not_true, Bool.not_false, if_true, if_false, Bool.false_eq_true, Nat.zero_add, Nat.add_zero, Nat.reduceAdd, Nat.reduceSub, Nat.reduceMul, Nat.reduceLeDiff, Nat.reduceEqDiff, Int.reduceAdd, Int.reduceSub, Int.reduceNeg, Int.reduceMul, Int.reduceLT, Int.reduceLE, Int.reduceEq, decide_true, decide_false, and_self, true_and, and_true, and_false, false_and, or_true, true_or, or_false, false_or, not_true_eq_false, not_false_eq_true, imm_d, cAtt_eq, cMake_eq, cMeth, vD, vI, vB, vS, vT, wAtt_Read_row, wMake_Read, wAtt_Wrong_place, wMake_Wrong, p63, ez, p31, p97, p9, eu]
      by_cases c2 : many = 1
      · subst c2
        by_cases c3 : sorts = 2 ∨ sorts = 1 ∧ u / 3 % 3 = 0
        · obtain ⟨m, em⟩ := maker_at (u / 9)
          refine ⟨.mk m, .mk m (by omega), ?_⟩
          simp only [runD, rho0, sSeq, List.length_cons, List.length_nil, List.map_cons, List.map_nil, List.replicate_succ, List.replicate_zero, List.cons_append, List.nil_append, List.append_nil, List.getElem?_cons_zero, List.getElem?_cons_succ, List.set_cons_zero, List.set_cons_succ, ↓reduceIte, if_true, if_false, Nat.reduceAdd, Nat.reduceSub, Nat.reduceMul, Nat.reduceLeDiff, Nat.reduceEqDiff, Nat.zero_add, Nat.add_zero, vD, vI, vB, vS, vT, m_law_term, st, c1']
          by_cases y1 : sorts = 2
          · simp only [runD, rho0, sSeq, sIf, sRet, sRetL, sRetO, sAsg, sAsgL, sAsgO, sAug, sPar, sNil, sNever, sBreak, sCont, cVar, rd, cD, cOp1, cOp2, cT, wB, qAnd, qOr, qNot, cAnd, cOr, cNot, cIf, aNil, aCons, wDs, cTup, lLst, cL, wII, wIC, wAdd, wLen, wIsi, isTup, isStr, isInt, isBool, isLst, cCall, lCall, Res.val, W.im, imm, imms, noOwn, wIx_t0, wIx_t1, wEq_int, wNe_int, List.length_cons, List.length_nil, List.map_cons, List.map_nil, List.replicate_succ, List.replicate_zero, List.cons_append, List.nil_append, List.append_nil, List.getElem?_cons_zero, List.getElem?_cons_succ, List.set_cons_zero, List.set_cons_succ, List.all_cons, List.all_nil, ↓reduceIte, Bool.or_true, Bool.true_or, Bool.or_false, Bool.false_or, Bool.and_true, Bool.true_and, Bool.and_false, Bool.false_and, Bool.not_true, Bool.not_false, if_true, if_false, Bool.false_eq_true, Nat.zero_add, Nat.add_zero, Nat.reduceAdd, Nat.reduceSub, Nat.reduceMul, Nat.reduceLeDiff, Nat.reduceEqDiff, Int.reduceAdd, Int.reduceSub, Int.reduceNeg, Int.reduceMul, Int.reduceLT, Int.reduceLE, Int.reduceEq, decide_true, decide_false, and_self, true_and, and_true, and_false, false_and, or_true, true_or, or_false, false_or, not_true_eq_false, not_false_eq_true, imm_d, cAtt_eq, cMake_eq, cMeth, vD, vI, vB, vS, vT, wAtt_Read_row, wMake_Read, wAtt_Wrong_place, wMake_Wrong, y1, wIx, em, len_BCIKS, mk_s, d9, q5, Tm.d]
          · have y2 : sorts = 1 ∧ u / 3 % 3 = 0 := by omega
            simp only [runD, rho0, sSeq, sIf, sRet, sRetL, sRetO, sAsg, sAsgL, sAsgO, sAug, sPar, sNil, sNever, sBreak, sCont, cVar, rd, cD, cOp1, cOp2, cT, wB, qAnd, qOr, qNot, cAnd, cOr, cNot, cIf, aNil, aCons, wDs, cTup, lLst, cL, wII, wIC, wAdd, wLen, wIsi, isTup, isStr, isInt, isBool, isLst, cCall, lCall, Res.val, W.im, imm, imms, noOwn, wIx_t0, wIx_t1, wEq_int, wNe_int, List.length_cons, List.length_nil, List.map_cons, List.map_nil, List.replicate_succ, List.replicate_zero, List.cons_append, List.nil_append, List.append_nil, List.getElem?_cons_zero, List.getElem?_cons_succ, List.set_cons_zero, List.set_cons_succ, List.all_cons, List.all_nil, ↓reduceIte, Bool.or_true, Bool.true_or, Bool.or_false, Bool.false_or, Bool.and_true, Bool.true_and, Bool.and_false, Bool.false_and, Bool.not_true, Bool.not_false, if_true, if_false, Bool.false_eq_true, Nat.zero_add, Nat.add_zero, Nat.reduceAdd, Nat.reduceSub, Nat.reduceMul, Nat.reduceLeDiff, Nat.reduceEqDiff, Int.reduceAdd, Int.reduceSub, Int.reduceNeg, Int.reduceMul, Int.reduceLT, Int.reduceLE, Int.reduceEq, decide_true, decide_false, and_self, true_and, and_true, and_false, false_and, or_true, true_or, or_false, false_or, not_true_eq_false, not_false_eq_true, imm_d, cAtt_eq, cMake_eq, cMeth, vD, vI, vB, vS, vT, wAtt_Read_row, wMake_Read, wAtt_Wrong_place, wMake_Wrong, y2.1, y2.2, wIx, em, len_BCIKS, mk_s, d3, q3, d9, q5, Tm.d]
        · have hw : ∃ w : Int, 0 < w ∧ w ≤ deep + 2 ∧ cIf (cT (cOp2 (wEq k) (cOp2 wMod (cOp2 wDiv (cVar 5) (cI 45)) (cI 5)) (cI 0))) (cOp2 wAdd (cVar 3) (cI 2)) (cOp2 wMax (cI 1) (cVar 3)) [some (.w (scr ns)), some (.w (.d (.int b))), some (.w (.d (.int 1))), some (.w (.d (.int deep))), some (.w (.d (.int sorts))), some (.w (.d (.int u))), none, none, none] = some (.d (.int w)) := by
            by_cases y : u / 45 % 5 = 0
            · exact ⟨deep + 2, by omega, by omega, by simp only [runD, rho0, sSeq, sIf, sRet, sRetL, sRetO, sAsg, sAsgL, sAsgO, sAug, sPar, sNil, sNever, sBreak, sCont, cVar, rd, cD, cOp1, cOp2, cT, wB, qAnd, qOr, qNot, cAnd, cOr, cNot, cIf, aNil, aCons, wDs, cTup, lLst, cL, wII, wIC, wAdd, wLen, wIsi, isTup, isStr, isInt, isBool, isLst, cCall, lCall, Res.val, W.im, imm, imms, noOwn, wIx_t0, wIx_t1, wEq_int, wNe_int, List.length_cons, List.length_nil, List.map_cons, List.map_nil, List.replicate_succ, List.replicate_zero, List.cons_append, List.nil_append, List.append_nil, List.getElem?_cons_zero, List.getElem?_cons_succ, List.set_cons_zero, List.set_cons_succ, List.all_cons, List.all_nil, ↓reduceIte, Bool.or_true, Bool.true_or, Bool.or_false, Bool.false_or, Bool.and_true, Bool.true_and, Bool.and_false, Bool.false_and, Bool.not_true, Bool.not_false, if_true, if_false, Bool.false_eq_true, Nat.zero_add, Nat.add_zero, Nat.reduceAdd, Nat.reduceSub, Nat.reduceMul, Nat.reduceLeDiff, Nat.reduceEqDiff, Int.reduceAdd, Int.reduceSub, Int.reduceNeg, Int.reduceMul, Int.reduceLT, Int.reduceLE, Int.reduceEq, decide_true, decide_false, and_self, true_and, and_true, and_false, false_and, or_true, true_or, or_false, false_or, not_true_eq_false, not_false_eq_true, imm_d, cAtt_eq, cMake_eq, cMeth, vD, vI, vB, vS, vT, wAtt_Read_row, wMake_Read, wAtt_Wrong_place, wMake_Wrong, y, d45, q5]⟩
            · refine ⟨if deep > 1 then deep else 1, by split <;> omega, by split <;> omega, by simp only [runD, rho0, sSeq, sIf, sRet, sRetL, sRetO, sAsg, sAsgL, sAsgO, sAug, sPar, sNil, sNever, sBreak, sCont, cVar, rd, cD, cOp1, cOp2, cT, wB, qAnd, qOr, qNot, cAnd, cOr, cNot, cIf, aNil, aCons, wDs, cTup, lLst, cL, wII, wIC, wAdd, wLen, wIsi, isTup, isStr, isInt, isBool, isLst, cCall, lCall, Res.val, W.im, imm, imms, noOwn, wIx_t0, wIx_t1, wEq_int, wNe_int, List.length_cons, List.length_nil, List.map_cons, List.map_nil, List.replicate_succ, List.replicate_zero, List.cons_append, List.nil_append, List.append_nil, List.getElem?_cons_zero, List.getElem?_cons_succ, List.set_cons_zero, List.set_cons_succ, List.all_cons, List.all_nil, ↓reduceIte, Bool.or_true, Bool.true_or, Bool.or_false, Bool.false_or, Bool.and_true, Bool.true_and, Bool.and_false, Bool.false_and, Bool.not_true, Bool.not_false, if_true, if_false, Bool.false_eq_true, Nat.zero_add, Nat.add_zero, Nat.reduceAdd, Nat.reduceSub, Nat.reduceMul, Nat.reduceLeDiff, Nat.reduceEqDiff, Int.reduceAdd, Int.reduceSub, Int.reduceNeg, Int.reduceMul, Int.reduceLT, Int.reduceLE, Int.reduceEq, decide_true, decide_false, and_self, true_and, and_true, and_false, false_and, or_true, true_or, or_false, false_or, not_true_eq_false, not_false_eq_true, imm_d, cAtt_eq, cMake_eq, cMeth, vD, vI, vB, vS, vT, wAtt_Read_row, wMake_Read, wAtt_Wrong_place, wMake_Wrong, y, d45, q5]⟩
          obtain ⟨w, w1, w2, ew⟩ := hw
          have s6 : ∀ f, f [some (.w (scr ns)), some (.w (.d (.int b))), some (.w (.d (.int 1))), some (.w (.d (.int deep))), some (.w (.d (.int sorts))), some (.w (.d (.int u))), none, none, none] = some (.d (.int w)) → sAsg 6 f [some (.w (scr ns)), some (.w (.d (.int b))), some (.w (.d (.int 1))), some (.w (.d (.int deep))), some (.w (.d (.int sorts))), some (.w (.d (.int u))), none, none, none] = some (.nx [some (.w (scr ns)), some (.w (.d (.int b))), some (.w (.d (.int 1))), some (.w (.d (.int deep))), some (.w (.d (.int sorts))), some (.w (.d (.int u))), some (.w (.d (.int w))), none, none]) := fun f hf => by
            simp only [runD, rho0, sSeq, sIf, sRet, sRetL, sRetO, sAsg, sAsgL, sAsgO, sAug, sPar, sNil, sNever, sBreak, sCont, cVar, rd, cD, cOp1, cOp2, cT, wB, qAnd, qOr, qNot, cAnd, cOr, cNot, cIf, aNil, aCons, wDs, cTup, lLst, cL, wII, wIC, wAdd, wLen, wIsi, isTup, isStr, isInt, isBool, isLst, cCall, lCall, Res.val, W.im, imm, imms, noOwn, wIx_t0, wIx_t1, wEq_int, wNe_int, List.length_cons, List.length_nil, List.map_cons, List.map_nil, List.replicate_succ, List.replicate_zero, List.cons_append, List.nil_append, List.append_nil, List.getElem?_cons_zero, List.getElem?_cons_succ, List.set_cons_zero, List.set_cons_succ, List.all_cons, List.all_nil, ↓reduceIte, Bool.or_true, Bool.true_or, Bool.or_false, Bool.false_or, Bool.and_true, Bool.true_and, Bool.and_false, Bool.false_and, Bool.not_true, Bool.not_false, if_true, if_false, Bool.false_eq_true, Nat.zero_add, Nat.add_zero, Nat.reduceAdd, Nat.reduceSub, Nat.reduceMul, Nat.reduceLeDiff, Nat.reduceEqDiff, Int.reduceAdd, Int.reduceSub, Int.reduceNeg, Int.reduceMul, Int.reduceLT, Int.reduceLE, Int.reduceEq, decide_true, decide_false, and_self, true_and, and_true, and_false, false_and, or_true, true_or, or_false, false_or, not_true_eq_false, not_false_eq_true, imm_d, cAtt_eq, cMake_eq, cMeth, vD, vI, vB, vS, vT, wAtt_Read_row, wMake_Read, wAtt_Wrong_place, wMake_Wrong, hf]
          refine ⟨.nm (u / 225 % w), .nm _ (by omega) (Int.emod_nonneg _ (by omega)) (by have := Int.emod_lt_of_pos (u / 225) w1; omega), ?_⟩
          simp only [runD, rho0, sSeq, List.length_cons, List.length_nil, List.map_cons, List.map_nil, List.replicate_succ, List.replicate_zero, List.cons_append, List.nil_append, List.append_nil, List.getElem?_cons_zero, List.getElem?_cons_succ, List.set_cons_zero, List.set_cons_succ, ↓reduceIte, if_true, if_false, Nat.reduceAdd, Nat.reduceSub, Nat.reduceMul, Nat.reduceLeDiff, Nat.reduceEqDiff, Nat.zero_add, Nat.add_zero, vD, vI, vB, vS, vT, m_law_term, st, c1']
          by_cases y1 : sorts = 1
          · have y2 : ¬ u / 3 % 3 = 0 := by omega
            have y3 : ¬ (1 : Int) = 2 := by decide
            subst y1
            simp only [s6 _ ew, sIf, cT, cOp2, cVar, cD, rd, qOr, qAnd, List.getElem?_cons_zero, List.getElem?_cons_succ, wEq_int, wB, decide_true, y2, y3, decide_false, wIC, d3, q3, and_self, if_true, sSeq, sNil]
            simp only [runD, rho0, sSeq, sIf, sRet, sRetL, sRetO, sAsg, sAsgL, sAsgO, sAug, sPar, sNil, sNever, sBreak, sCont, cVar, rd, cD, cOp1, cOp2, cT, wB, qAnd, qOr, qNot, cAnd, cOr, cNot, cIf, aNil, aCons, wDs, cTup, lLst, cL, wII, wIC, wAdd, wLen, wIsi, isTup, isStr, isInt, isBool, isLst, cCall, lCall, Res.val, W.im, imm, imms, noOwn, wIx_t0, wIx_t1, wEq_int, wNe_int, List.length_cons, List.length_nil, List.map_cons, List.map_nil, List.replicate_succ, List.replicate_zero, List.cons_append, List.nil_append, List.append_nil, List.getElem?_cons_zero, List.getElem?_cons_succ, List.set_cons_zero, List.set_cons_succ, List.all_cons, List.all_nil, ↓reduceIte, Bool.or_true, Bool.true_or, Bool.or_false, Bool.false_or, Bool.and_true, Bool.true_and, Bool.and_false, Bool.false_and, Bool.not_true, Bool.not_false, if_true, if_false, Bool.false_eq_true, Nat.zero_add, Nat.add_zero, Nat.reduceAdd, Nat.reduceSub, Nat.reduceMul, Nat.reduceLeDiff, Nat.reduceEqDiff, Int.reduceAdd, Int.reduceSub, Int.reduceNeg, Int.reduceMul, Int.reduceLT, Int.reduceLE, Int.reduceEq, decide_true, decide_false, and_self, true_and, and_true, and_false, false_and, or_true, true_or, or_false, false_or, not_true_eq_false, not_false_eq_true, imm_d, cAtt_eq, cMake_eq, cMeth, vD, vI, vB, vS, vT, wAtt_Read_row, wMake_Read, wAtt_Wrong_place, wMake_Wrong, d225, w1, Tm.d]
          · have y2 : ¬ sorts = 2 := by omega
            simp only [s6 _ ew, sIf, cT, cOp2, cVar, cD, rd, qOr, qAnd, List.getElem?_cons_zero, List.getElem?_cons_succ, wEq_int, wB, decide_true, y2, y1, decide_false, wIC, d3, q3, and_self, if_true, sSeq, sNil]
            simp only [runD, rho0, sSeq, sIf, sRet, sRetL, sRetO, sAsg, sAsgL, sAsgO, sAug, sPar, sNil, sNever, sBreak, sCont, cVar, rd, cD, cOp1, cOp2, cT, wB, qAnd, qOr, qNot, cAnd, cOr, cNot, cIf, aNil, aCons, wDs, cTup, lLst, cL, wII, wIC, wAdd, wLen, wIsi, isTup, isStr, isInt, isBool, isLst, cCall, lCall, Res.val, W.im, imm, imms, noOwn, wIx_t0, wIx_t1, wEq_int, wNe_int, List.length_cons, List.length_nil, List.map_cons, List.map_nil, List.replicate_succ, List.replicate_zero, List.cons_append, List.nil_append, List.append_nil, List.getElem?_cons_zero, List.getElem?_cons_succ, List.set_cons_zero, List.set_cons_succ, List.all_cons, List.all_nil, ↓reduceIte, Bool.or_true, Bool.true_or, Bool.or_false, Bool.false_or, Bool.and_true, Bool.true_and, Bool.and_false, Bool.false_and, Bool.not_true, Bool.not_false, if_true, if_false, Bool.false_eq_true, Nat.zero_add, Nat.add_zero, Nat.reduceAdd, Nat.reduceSub, Nat.reduceMul, Nat.reduceLeDiff, Nat.reduceEqDiff, Int.reduceAdd, Int.reduceSub, Int.reduceNeg, Int.reduceMul, Int.reduceLT, Int.reduceLE, Int.reduceEq, decide_true, decide_false, and_self, true_and, and_true, and_false, false_and, or_true, true_or, or_false, false_or, not_true_eq_false, not_false_eq_true, imm_d, cAtt_eq, cMake_eq, cMeth, vD, vI, vB, vS, vT, wAtt_Read_row, wMake_Read, wAtt_Wrong_place, wMake_Wrong, d225, w1, Tm.d]
      · have r1 : (0 : Int) < many - 1 := by omega
        have l1 := Int.emod_nonneg (u / 3) (show many - 1 ≠ 0 by omega)
        have l2 := Int.emod_lt_of_pos (u / 3) r1
        obtain ⟨t1, ht1, et1⟩ := ih k (2 * b + 1) (1 + u / 3 % (many - 1)) deep sorts (e + 1) (by omega) (by omega) (by omega) b1 (by omega) (by omega) (by omega) h8 h9 h10 h11
        obtain ⟨t2, ht2, et2⟩ := ih k (2 * b + 2) (many - (1 + u / 3 % (many - 1))) deep sorts (e + 1) (by omega) (by omega) (by omega) b2 (by omega) (by omega) (by omega) h8 h9 h10 h11
        refine ⟨.ap t1 t2, ?_, ?_⟩
        · have := Drawn.ap (by omega) (by omega) ht1 ht2
          rw [show (1 + u / 3 % (many - 1)).toNat + (many - (1 + u / 3 % (many - 1))).toNat = many.toNat by omega] at this
          exact this
        · simp only [runD, rho0, sSeq, List.length_cons, List.length_nil, List.map_cons, List.map_nil, List.replicate_succ, List.replicate_zero, List.cons_append, List.nil_append, List.append_nil, List.getElem?_cons_zero, List.getElem?_cons_succ, List.set_cons_zero, List.set_cons_succ, ↓reduceIte, if_true, if_false, Nat.reduceAdd, Nat.reduceSub, Nat.reduceMul, Nat.reduceLeDiff, Nat.reduceEqDiff, Nat.zero_add, Nat.add_zero, vD, vI, vB, vS, vT, m_law_term, st, c1']
          simp only [runD, rho0, sSeq, sIf, sRet, sRetL, sRetO, sAsg, sAsgL, sAsgO, sAug, sPar, sNil, sNever, sBreak, sCont, cVar, rd, cD, cOp1, cOp2, cT, wB, qAnd, qOr, qNot, cAnd, cOr, cNot, cIf, aNil, aCons, wDs, cTup, lLst, cL, wII, wIC, wAdd, wLen, wIsi, isTup, isStr, isInt, isBool, isLst, cCall, lCall, Res.val, W.im, imm, imms, noOwn, wIx_t0, wIx_t1, wEq_int, wNe_int, List.length_cons, List.length_nil, List.map_cons, List.map_nil, List.replicate_succ, List.replicate_zero, List.cons_append, List.nil_append, List.append_nil, List.getElem?_cons_zero, List.getElem?_cons_succ, List.set_cons_zero, List.set_cons_succ, List.all_cons, List.all_nil, ↓reduceIte, Bool.or_true, Bool.true_or, Bool.or_false, Bool.false_or, Bool.and_true, Bool.true_and, Bool.and_false, Bool.false_and, Bool.not_true, Bool.not_false, if_true, if_false, Bool.false_eq_true, Nat.zero_add, Nat.add_zero, Nat.reduceAdd, Nat.reduceSub, Nat.reduceMul, Nat.reduceLeDiff, Nat.reduceEqDiff, Int.reduceAdd, Int.reduceSub, Int.reduceNeg, Int.reduceMul, Int.reduceLT, Int.reduceLE, Int.reduceEq, decide_true, decide_false, and_self, true_and, and_true, and_false, false_and, or_true, true_or, or_false, false_or, not_true_eq_false, not_false_eq_true, imm_d, cAtt_eq, cMake_eq, cMeth, vD, vI, vB, vS, vT, wAtt_Read_row, wMake_Read, wAtt_Wrong_place, wMake_Wrong, c2, d3, r1, m2, et1, et2, Tm.d]

end R
namespace R
open PySem L2 Nm
theorem wAdd_s (l m : List Nat) (h : l.length + m.length ≤ 100000) : wAdd (.d (.str (sOf l))) (.d (.str (sOf m))) = some (.d (.str (sOf (l ++ m)))) := by
  simp only [wAdd, sOf_len, h, if_true, sOf_app]
theorem law_text_ok : ∀ (t : Tm) (k : Nat), t.row = true → t.lv ≤ 1000 → t.dep + 1 ≤ k → callAt k 7 [.d t.d] = some (.w (.d (.str (sOf t.tx))))
  | .nm _, _, h, _, _ => by cases h
  | .fn _, _, h, _, _ => by cases h
  | .mk m, k, _, _, hk => by
    obtain ⟨k, rfl⟩ : ∃ j, k = j + 1 := ⟨k - 1, by omega⟩
    rw [c_law_text]
    simp only [runD, rho0, sSeq, sIf, sRet, sRetL, sRetO, sAsg, sAsgL, sAsgO, sAug, sPar, sNil, sNever, sBreak, sCont, cVar, rd, cD, cOp1, cOp2, cT, wB, qAnd, qOr, qNot, cAnd, cOr, cNot, cIf, aNil, aCons, wDs, cTup, lLst, cL, wII, wIC, wAdd, wLen, wIsi, isTup, isStr, isInt, isBool, isLst, cCall, lCall, Res.val, W.im, imm, imms, noOwn, wIx_t0, wIx_t1, wEq_int, wNe_int, List.length_cons, List.length_nil, List.map_cons, List.map_nil, List.replicate_succ, List.replicate_zero, List.cons_append, List.nil_append, List.append_nil, List.getElem?_cons_zero, List.getElem?_cons_succ, List.set_cons_zero, List.set_cons_succ, List.all_cons, List.all_nil, ↓reduceIte, Bool.or_true, Bool.true_or, Bool.or_false, Bool.false_or, Bool.and_true, Bool.true_and, Bool.and_false, Bool.false_and, Bool.not_true, Bool.not_false, if_true, if_false, Bool.false_eq_true, Nat.zero_add, Nat.add_zero, Nat.reduceAdd, Nat.reduceSub, Nat.reduceMul, Nat.reduceLeDiff, Nat.reduceEqDiff, Int.reduceAdd, Int.reduceSub, Int.reduceNeg, Int.reduceMul, Int.reduceLT, Int.reduceLE, Int.reduceEq, decide_true, decide_false, and_self, true_and, and_true, and_false, false_and, or_true, true_or, or_false, false_or, not_true_eq_false, not_false_eq_true, imm_d, cAtt_eq, cMake_eq, cMeth, vD, vI, vB, vS, vT, wAtt_Read_row, wMake_Read, wAtt_Wrong_place, wMake_Wrong, m_law_text, Tm.d, Tm.tx, mk_sOf]
  | .ap a b, k, h, hl, hk => by
    obtain ⟨k, rfl⟩ : ∃ j, k = j + 1 := ⟨k - 1, by omega⟩
    have h' : a.row = true ∧ b.row = true := by simpa only [Tm.row, Bool.and_eq_true] using h
    simp only [Tm.dep, Tm.lv] at hk hl
    have e1 := law_text_ok a k h'.1 (by omega) (by omega)
    have e2 := law_text_ok b k h'.2 (by omega) (by omega)
    have l1 := tx_len a h'.1
    have l2 := tx_len b h'.2
    rw [c_law_text]
    simp only [runD, rho0, m_law_text, sRet, cIf, cT, wB, cOp1, cOp2, cVar, rd, wIsi, isTup, Tm.d, cCall, aCons, aNil, cD, List.length_cons, List.length_nil, List.map_cons, List.map_nil, List.replicate_zero, List.cons_append, List.nil_append, List.getElem?_cons_zero, Nat.reduceAdd, Nat.reduceSub, if_true, wIx_t0, wIx_t1, e1, e2, Res.val, at_s]
    rw [wAdd_s _ _ (by simp only [List.length_cons, List.length_nil]; omega)]
    simp only []
    rw [wAdd_s _ _ (by simp only [List.length_cons, List.length_nil, List.length_append]; omega)]
    simp only [Tm.tx, List.cons_append, List.nil_append]
theorem says_ok (k : Nat) (hk : 1 ≤ k) (a b : Bool) : callAt k 8 [.d (.bool a), .d (.bool b)] = some (.w (.d (.bool (decide (a = b))))) := by
  obtain ⟨k, rfl⟩ : ∃ j, k = j + 1 := ⟨k - 1, by omega⟩
  rw [c_law_says]
  cases a <;> cases b <;> simp only [runD, rho0, sSeq, sIf, sRet, sRetL, sRetO, sAsg, sAsgL, sAsgO, sAug, sPar, sNil, sNever, sBreak, sCont, cVar, rd, cD, cOp1, cOp2, cT, wB, qAnd, qOr, qNot, cAnd, cOr, cNot, cIf, aNil, aCons, wDs, cTup, lLst, cL, wII, wIC, wAdd, wLen, wIsi, isTup, isStr, isInt, isBool, isLst, cCall, lCall, Res.val, W.im, imm, imms, noOwn, wIx_t0, wIx_t1, wEq_int, wNe_int, List.length_cons, List.length_nil, List.map_cons, List.map_nil, List.replicate_succ, List.replicate_zero, List.cons_append, List.nil_append, List.append_nil, List.getElem?_cons_zero, List.getElem?_cons_succ, List.set_cons_zero, List.set_cons_succ, List.all_cons, List.all_nil, ↓reduceIte, Bool.or_true, Bool.true_or, Bool.or_false, Bool.false_or, Bool.and_true, Bool.true_and, Bool.and_false, Bool.false_and, Bool.not_true, Bool.not_false, if_true, if_false, Bool.false_eq_true, Nat.zero_add, Nat.add_zero, Nat.reduceAdd, Nat.reduceSub, Nat.reduceMul, Nat.reduceLeDiff, Nat.reduceEqDiff, Int.reduceAdd, Int.reduceSub, Int.reduceNeg, Int.reduceMul, Int.reduceLT, Int.reduceLE, Int.reduceEq, decide_true, decide_false, and_self, true_and, and_true, and_false, false_and, or_true, true_or, or_false, false_or, not_true_eq_false, not_false_eq_true, imm_d, cAtt_eq, cMake_eq, cMeth, vD, vI, vB, vS, vT, wAtt_Read_row, wMake_Read, wAtt_Wrong_place, wMake_Wrong, m_law_says, wEq, eqOk, eqD, BEq.rfl] <;> rfl

end R
namespace R
open PySem L2 Nm
theorem maker1_ok (k : Nat) (hk : 1 ≤ k) (c : Nat) : callAt k 0 [.d (.str (sOf [c]))] = some (.w (.d (.bool (isMk c)))) := by
  obtain ⟨k, rfl⟩ : ∃ j, k = j + 1 := ⟨k - 1, by omega⟩
  rw [c_is_maker]
  have h1 : (sOf [c]).length = 1 := rfl
  simp only [runD, rho0, sSeq, sIf, sRet, sRetL, sRetO, sAsg, sAsgL, sAsgO, sAug, sPar, sNil, sNever, sBreak, sCont, cVar, rd, cD, cOp1, cOp2, cT, wB, qAnd, qOr, qNot, cAnd, cOr, cNot, cIf, aNil, aCons, wDs, cTup, lLst, cL, wII, wIC, wAdd, wLen, wIsi, isTup, isStr, isInt, isBool, isLst, cCall, lCall, Res.val, W.im, imm, imms, noOwn, wIx_t0, wIx_t1, wEq_int, wNe_int, List.length_cons, List.length_nil, List.map_cons, List.map_nil, List.replicate_succ, List.replicate_zero, List.cons_append, List.nil_append, List.append_nil, List.getElem?_cons_zero, List.getElem?_cons_succ, List.set_cons_zero, List.set_cons_succ, List.all_cons, List.all_nil, ↓reduceIte, Bool.or_true, Bool.true_or, Bool.or_false, Bool.false_or, Bool.and_true, Bool.true_and, Bool.and_false, Bool.false_and, Bool.not_true, Bool.not_false, if_true, if_false, Bool.false_eq_true, Nat.zero_add, Nat.add_zero, Nat.reduceAdd, Nat.reduceSub, Nat.reduceMul, Nat.reduceLeDiff, Nat.reduceEqDiff, Int.reduceAdd, Int.reduceSub, Int.reduceNeg, Int.reduceMul, Int.reduceLT, Int.reduceLE, Int.reduceEq, decide_true, decide_false, and_self, true_and, and_true, and_false, false_and, or_true, true_or, or_false, false_or, not_true_eq_false, not_false_eq_true, imm_d, cAtt_eq, cMake_eq, cMeth, vD, vI, vB, vS, vT, wAtt_Read_row, wMake_Read, wAtt_Wrong_place, wMake_Wrong, m_is_maker, h1, in_mk]
  rfl
/-- the loop of wrong_of -/
theorem wrong_loop (k : Nat) (hk : 1 ≤ k) (z : Option Sl) : ∀ (l : List Nat) (due p : Int) (x y : Option Sl), (match x with | some (.own _) => False | _ => True) → 
    forW (gN2 2 3) (b_wrong_of_1 (callAt k) k) (enS p l) [z, some (.w (.d (.int due))), x, y] =
    match wz due p l with
    | .inl q => some (.rt (.w (.d (.int q))))
    | .inr q => some (.nx [z, some (.w (.d (.int q))), (match l with | [] => x | _ => some (.w (.d (.int (p + l.length - 1))))), (match l.getLast? with | none => y | some c => some (.w (.d (.str (sOf [c])))))])
  | [], due, p, x, y, _ => by simp only [enS, forW, wz, List.getLast?_nil]
  | c :: l, due, p, x, y, hx => by
    have hm := maker1_ok k hk c
    have ih := wrong_loop k hk z l
    rw [enS, forW]
    simp only [b_wrong_of_1]
    simp only [gN2, List.set_cons_succ, List.set_cons_zero]
    rw [wz]
    by_cases h1 : due = 0
    · rw [if_pos (.inl h1)]
      subst h1
      simp only [runD, rho0, sSeq, sIf, sRet, sRetL, sRetO, sAsg, sAsgL, sAsgO, sAug, sPar, sNil, sNever, sBreak, sCont, cVar, rd, cD, cOp1, cOp2, cT, wB, qAnd, qOr, qNot, cAnd, cOr, cNot, cIf, aNil, aCons, wDs, cTup, lLst, cL, wII, wIC, wAdd, wLen, wIsi, isTup, isStr, isInt, isBool, isLst, cCall, lCall, Res.val, W.im, imm, imms, noOwn, wIx_t0, wIx_t1, wEq_int, wNe_int, List.length_cons, List.length_nil, List.map_cons, List.map_nil, List.replicate_succ, List.replicate_zero, List.cons_append, List.nil_append, List.append_nil, List.getElem?_cons_zero, List.getElem?_cons_succ, List.set_cons_zero, List.set_cons_succ, List.all_cons, List.all_nil, ↓reduceIte, Bool.or_true, Bool.true_or, Bool.or_false, Bool.false_or, Bool.and_true, Bool.true_and, Bool.and_false, Bool.false_and, Bool.not_true, Bool.not_false, if_true, if_false, Bool.false_eq_true, Nat.zero_add, Nat.add_zero, Nat.reduceAdd, Nat.reduceSub, Nat.reduceMul, Nat.reduceLeDiff, Nat.reduceEqDiff, Int.reduceAdd, Int.reduceSub, Int.reduceNeg, Int.reduceMul, Int.reduceLT, Int.reduceLE, Int.reduceEq, decide_true, decide_false, and_self, true_and, and_true, and_false, false_and, or_true, true_or, or_false, false_or, not_true_eq_false, not_false_eq_true, imm_d, cAtt_eq, cMake_eq, cMeth, vD, vI, vB, vS, vT, wAtt_Read_row, wMake_Read, wAtt_Wrong_place, wMake_Wrong]
    · by_cases h2 : c = 64
      · rw [if_neg (fun h => h.elim h1 fun h => h (.inl h2)), if_pos h2]
        simp only [runD, rho0, sSeq, sIf, sRet, sRetL, sRetO, sAsg, sAsgL, sAsgO, sAug, sPar, sNil, sNever, sBreak, sCont, cVar, rd, cD, cOp1, cOp2, cT, wB, qAnd, qOr, qNot, cAnd, cOr, cNot, cIf, aNil, aCons, wDs, cTup, lLst, cL, wII, wIC, wAdd, wLen, wIsi, isTup, isStr, isInt, isBool, isLst, cCall, lCall, Res.val, W.im, imm, imms, noOwn, wIx_t0, wIx_t1, wEq_int, wNe_int, List.length_cons, List.length_nil, List.map_cons, List.map_nil, List.replicate_succ, List.replicate_zero, List.cons_append, List.nil_append, List.append_nil, List.getElem?_cons_zero, List.getElem?_cons_succ, List.set_cons_zero, List.set_cons_succ, List.all_cons, List.all_nil, ↓reduceIte, Bool.or_true, Bool.true_or, Bool.or_false, Bool.false_or, Bool.and_true, Bool.true_and, Bool.and_false, Bool.false_and, Bool.not_true, Bool.not_false, if_true, if_false, Bool.false_eq_true, Nat.zero_add, Nat.add_zero, Nat.reduceAdd, Nat.reduceSub, Nat.reduceMul, Nat.reduceLeDiff, Nat.reduceEqDiff, Int.reduceAdd, Int.reduceSub, Int.reduceNeg, Int.reduceMul, Int.reduceLT, Int.reduceLE, Int.reduceEq, decide_true, decide_false, and_self, true_and, and_true, and_false, false_and, or_true, true_or, or_false, false_or, not_true_eq_false, not_false_eq_true, imm_d, cAtt_eq, cMake_eq, cMeth, vD, vI, vB, vS, vT, wAtt_Read_row, wMake_Read, wAtt_Wrong_place, wMake_Wrong, h1, h2, wEq_str, wNe_str, one_at, wNeg]
        rw [ih _ _ _ _ trivial]
        cases wz (due + 1) (p + 1) l with
        | inl q => rfl
        | inr q =>
          simp only []
          cases l with
          | nil => simp
          | cons a l => simp; constructor; omega; cases h : (a :: l).getLast? <;> simp_all
      · by_cases h3 : isMk c = true
        · rw [if_neg (fun h => h.elim h1 fun h => h (.inr h3)), if_neg h2]
          simp only [runD, rho0, sSeq, sIf, sRet, sRetL, sRetO, sAsg, sAsgL, sAsgO, sAug, sPar, sNil, sNever, sBreak, sCont, cVar, rd, cD, cOp1, cOp2, cT, wB, qAnd, qOr, qNot, cAnd, cOr, cNot, cIf, aNil, aCons, wDs, cTup, lLst, cL, wII, wIC, wAdd, wLen, wIsi, isTup, isStr, isInt, isBool, isLst, cCall, lCall, Res.val, W.im, imm, imms, noOwn, wIx_t0, wIx_t1, wEq_int, wNe_int, List.length_cons, List.length_nil, List.map_cons, List.map_nil, List.replicate_succ, List.replicate_zero, List.cons_append, List.nil_append, List.append_nil, List.getElem?_cons_zero, List.getElem?_cons_succ, List.set_cons_zero, List.set_cons_succ, List.all_cons, List.all_nil, ↓reduceIte, Bool.or_true, Bool.true_or, Bool.or_false, Bool.false_or, Bool.and_true, Bool.true_and, Bool.and_false, Bool.false_and, Bool.not_true, Bool.not_false, if_true, if_false, Bool.false_eq_true, Nat.zero_add, Nat.add_zero, Nat.reduceAdd, Nat.reduceSub, Nat.reduceMul, Nat.reduceLeDiff, Nat.reduceEqDiff, Int.reduceAdd, Int.reduceSub, Int.reduceNeg, Int.reduceMul, Int.reduceLT, Int.reduceLE, Int.reduceEq, decide_true, decide_false, and_self, true_and, and_true, and_false, false_and, or_true, true_or, or_false, false_or, not_true_eq_false, not_false_eq_true, imm_d, cAtt_eq, cMake_eq, cMeth, vD, vI, vB, vS, vT, wAtt_Read_row, wMake_Read, wAtt_Wrong_place, wMake_Wrong, h1, h2, h3, hm, wEq_str, wNe_str, one_at, wNeg]
          rw [show due + -1 = due - 1 by omega, ih _ _ _ _ trivial]
          cases wz (due - 1) (p + 1) l with
          | inl q => rfl
          | inr q =>
            simp only []
            cases l with
            | nil => simp
            | cons a l => simp; constructor; omega; cases h : (a :: l).getLast? <;> simp_all
        · rw [if_pos (.inr (fun h => h.elim h2 h3))]
          have h3' : isMk c = false := by simpa using h3
          simp only [runD, rho0, sSeq, sIf, sRet, sRetL, sRetO, sAsg, sAsgL, sAsgO, sAug, sPar, sNil, sNever, sBreak, sCont, cVar, rd, cD, cOp1, cOp2, cT, wB, qAnd, qOr, qNot, cAnd, cOr, cNot, cIf, aNil, aCons, wDs, cTup, lLst, cL, wII, wIC, wAdd, wLen, wIsi, isTup, isStr, isInt, isBool, isLst, cCall, lCall, Res.val, W.im, imm, imms, noOwn, wIx_t0, wIx_t1, wEq_int, wNe_int, List.length_cons, List.length_nil, List.map_cons, List.map_nil, List.replicate_succ, List.replicate_zero, List.cons_append, List.nil_append, List.append_nil, List.getElem?_cons_zero, List.getElem?_cons_succ, List.set_cons_zero, List.set_cons_succ, List.all_cons, List.all_nil, ↓reduceIte, Bool.or_true, Bool.true_or, Bool.or_false, Bool.false_or, Bool.and_true, Bool.true_and, Bool.and_false, Bool.false_and, Bool.not_true, Bool.not_false, if_true, if_false, Bool.false_eq_true, Nat.zero_add, Nat.add_zero, Nat.reduceAdd, Nat.reduceSub, Nat.reduceMul, Nat.reduceLeDiff, Nat.reduceEqDiff, Int.reduceAdd, Int.reduceSub, Int.reduceNeg, Int.reduceMul, Int.reduceLT, Int.reduceLE, Int.reduceEq, decide_true, decide_false, and_self, true_and, and_true, and_false, false_and, or_true, true_or, or_false, false_or, not_true_eq_false, not_false_eq_true, imm_d, cAtt_eq, cMake_eq, cMeth, vD, vI, vB, vS, vT, wAtt_Read_row, wMake_Read, wAtt_Wrong_place, wMake_Wrong, h1, h2, h3', hm, wNe_str, one_at]
theorem wrong_of_ok (k : Nat) (hk : 2 ≤ k) (l : List Nat) (hl : l.length ≤ 100000) : callAt k 1 [.d (.str (sOf l))] = some (.w (.d (.int (wrong l)))) := by
  obtain ⟨k, rfl⟩ : ∃ j, k = j + 1 := ⟨k - 1, by omega⟩
  rw [c_wrong_of]
  simp only [runD, rho0, sSeq, List.length_cons, List.length_nil, List.map_cons, List.map_nil, List.replicate_succ, List.replicate_zero, List.cons_append, List.nil_append, List.append_nil, List.getElem?_cons_zero, List.getElem?_cons_succ, List.set_cons_zero, List.set_cons_succ, ↓reduceIte, if_true, if_false, Nat.reduceAdd, Nat.reduceSub, Nat.reduceMul, Nat.reduceLeDiff, Nat.reduceEqDiff, Nat.zero_add, Nat.add_zero, vD, vI, vB, vS, vT, m_wrong_of, i_wrong_of_1, sAsg, cD, W.im, imm, Bool.true_or, sFor, itE, cVar, rd, sOf_cps]
  rw [wrong_loop k (by omega) _ l 1 0 _ _ trivial]
  unfold wrong
  cases wz 1 0 l with
  | inl q => rfl
  | inr q =>
    by_cases h : 0 < q
    · simp only [runD, rho0, sSeq, sIf, sRet, sRetL, sRetO, sAsg, sAsgL, sAsgO, sAug, sPar, sNil, sNever, sBreak, sCont, cVar, rd, cD, cOp1, cOp2, cT, wB, qAnd, qOr, qNot, cAnd, cOr, cNot, cIf, aNil, aCons, wDs, cTup, lLst, cL, wII, wIC, wAdd, wLen, wIsi, isTup, isStr, isInt, isBool, isLst, cCall, lCall, Res.val, W.im, imm, imms, noOwn, wIx_t0, wIx_t1, wEq_int, wNe_int, List.length_cons, List.length_nil, List.map_cons, List.map_nil, List.replicate_succ, List.replicate_zero, List.cons_append, List.nil_append, List.append_nil, List.getElem?_cons_zero, List.getElem?_cons_succ, List.set_cons_zero, List.set_cons_succ, List.all_cons, List.all_nil, ↓reduceIte, Bool.or_true, Bool.true_or, Bool.or_false, Bool.false_or, Bool.and_true, Bool.true_and, Bool.and_false, Bool.false_and, Bool.not_true, Bool.not_false, if_true, if_false, Bool.false_eq_true, Nat.zero_add, Nat.add_zero, Nat.reduceAdd, Nat.reduceSub, Nat.reduceMul, Nat.reduceLeDiff, Nat.reduceEqDiff, Int.reduceAdd, Int.reduceSub, Int.reduceNeg, Int.reduceMul, Int.reduceLT, Int.reduceLE, Int.reduceEq, decide_true, decide_false, and_self, true_and, and_true, and_false, false_and, or_true, true_or, or_false, false_or, not_true_eq_false, not_false_eq_true, imm_d, cAtt_eq, cMake_eq, cMeth, vD, vI, vB, vS, vT, wAtt_Read_row, wMake_Read, wAtt_Wrong_place, wMake_Wrong, h, sOf_len, hl]
    · simp only [runD, rho0, sSeq, sIf, sRet, sRetL, sRetO, sAsg, sAsgL, sAsgO, sAug, sPar, sNil, sNever, sBreak, sCont, cVar, rd, cD, cOp1, cOp2, cT, wB, qAnd, qOr, qNot, cAnd, cOr, cNot, cIf, aNil, aCons, wDs, cTup, lLst, cL, wII, wIC, wAdd, wLen, wIsi, isTup, isStr, isInt, isBool, isLst, cCall, lCall, Res.val, W.im, imm, imms, noOwn, wIx_t0, wIx_t1, wEq_int, wNe_int, List.length_cons, List.length_nil, List.map_cons, List.map_nil, List.replicate_succ, List.replicate_zero, List.cons_append, List.nil_append, List.append_nil, List.getElem?_cons_zero, List.getElem?_cons_succ, List.set_cons_zero, List.set_cons_succ, List.all_cons, List.all_nil, ↓reduceIte, Bool.or_true, Bool.true_or, Bool.or_false, Bool.false_or, Bool.and_true, Bool.true_and, Bool.and_false, Bool.false_and, Bool.not_true, Bool.not_false, if_true, if_false, Bool.false_eq_true, Nat.zero_add, Nat.add_zero, Nat.reduceAdd, Nat.reduceSub, Nat.reduceMul, Nat.reduceLeDiff, Nat.reduceEqDiff, Int.reduceAdd, Int.reduceSub, Int.reduceNeg, Int.reduceMul, Int.reduceLT, Int.reduceLE, Int.reduceEq, decide_true, decide_false, and_self, true_and, and_true, and_false, false_and, or_true, true_or, or_false, false_or, not_true_eq_false, not_false_eq_true, imm_d, cAtt_eq, cMake_eq, cMeth, vD, vI, vB, vS, vT, wAtt_Read_row, wMake_Read, wAtt_Wrong_place, wMake_Wrong, h, wNeg]

end R
namespace R
open PySem L2 Nm
theorem ix_s (w : List Nat) (i : Nat) (c : Nat) (h : w[i]? = some c) (hl : w.length ≤ 100000) : wIx (.d (.str (sOf w))) (.d (.int i)) = some (.d (.str (sOf [c]))) := by
  have hi : i < w.length := (List.getElem?_eq_some_iff.mp h).1
  have e : atI w (i : Int) = some c := by
    unfold atI ixN
    rw [if_pos (by omega), if_pos (by omega)]
    simpa using h
  simp only [wIx, sOf_len, hl, if_true, sOf_cps, e]
theorem lwrong_loop (k : Nat) (w : List Nat) (hw : w.length ≤ 100000) : ∀ (l : List Nat) (p : Nat) (due : Int) (x : Option Sl), w.drop p = l → ∃ x', 
    forW (gN 2) (b_law_wrong_1 (callAt k) k) (stp p 1 l.length) [some (.w (.d (.str (sOf w)))), some (.w (.d (.int due))), x] =
    match wz due p l with
    | .inl q => some (.rt (.w (.d (.int q))))
    | .inr q => some (.nx [some (.w (.d (.str (sOf w)))), some (.w (.d (.int q))), x'])
  | [], p, due, x, _ => ⟨x, by simp only [List.length_nil, stp, forW, wz]⟩
  | c :: l, p, due, x, hp => by
    have hc : w[p]? = some c := by
      have : (w.drop p)[0]? = some c := by rw [hp]; rfl
      simpa using this
    have hp' : w.drop (p + 1) = l := by rw [← List.drop_drop, hp]; rfl
    have hx := ix_s w p c hc hw
    have ih := fun due x => lwrong_loop k w hw l (p + 1) due x hp'
    rw [List.length_cons, stp]
    simp only [forW, b_law_wrong_1, gN, List.set_cons_succ, List.set_cons_zero]
    rw [wz]
    by_cases h1 : due = 0
    · rw [if_pos (.inl h1)]
      subst h1
      exact ⟨x, by simp only [runD, rho0, sSeq, sIf, sRet, sRetL, sRetO, sAsg, sAsgL, sAsgO, sAug, sPar, sNil, sNever, sBreak, sCont, cVar, rd, cD, cOp1, cOp2, cT, wB, qAnd, qOr, qNot, cAnd, cOr, cNot, cIf, aNil, aCons, wDs, cTup, lLst, cL, wII, wIC, wAdd, wLen, wIsi, isTup, isStr, isInt, isBool, isLst, cCall, lCall, Res.val, W.im, imm, imms, noOwn, wIx_t0, wIx_t1, wEq_int, wNe_int, List.length_cons, List.length_nil, List.map_cons, List.map_nil, List.replicate_succ, List.replicate_zero, List.cons_append, List.nil_append, List.append_nil, List.getElem?_cons_zero, List.getElem?_cons_succ, List.set_cons_zero, List.set_cons_succ, List.all_cons, List.all_nil, ↓reduceIte, Bool.or_true, Bool.true_or, Bool.or_false, Bool.false_or, Bool.and_true, Bool.true_and, Bool.and_false, Bool.false_and, Bool.not_true, Bool.not_false, if_true, if_false, Bool.false_eq_true, Nat.zero_add, Nat.add_zero, Nat.reduceAdd, Nat.reduceSub, Nat.reduceMul, Nat.reduceLeDiff, Nat.reduceEqDiff, Int.reduceAdd, Int.reduceSub, Int.reduceNeg, Int.reduceMul, Int.reduceLT, Int.reduceLE, Int.reduceEq, decide_true, decide_false, and_self, true_and, and_true, and_false, false_and, or_true, true_or, or_false, false_or, not_true_eq_false, not_false_eq_true, imm_d, cAtt_eq, cMake_eq, cMeth, vD, vI, vB, vS, vT, wAtt_Read_row, wMake_Read, wAtt_Wrong_place, wMake_Wrong]⟩
    · by_cases h2 : c = 64
      · rw [if_neg (fun h => h.elim h1 fun h => h (.inl h2)), if_pos h2]
        obtain ⟨x', ih⟩ := ih (due + 1) (some (.w (.d (.int p))))
        refine ⟨x', ?_⟩
        simp only [runD, rho0, sSeq, sIf, sRet, sRetL, sRetO, sAsg, sAsgL, sAsgO, sAug, sPar, sNil, sNever, sBreak, sCont, cVar, rd, cD, cOp1, cOp2, cT, wB, qAnd, qOr, qNot, cAnd, cOr, cNot, cIf, aNil, aCons, wDs, cTup, lLst, cL, wII, wIC, wAdd, wLen, wIsi, isTup, isStr, isInt, isBool, isLst, cCall, lCall, Res.val, W.im, imm, imms, noOwn, wIx_t0, wIx_t1, wEq_int, wNe_int, List.length_cons, List.length_nil, List.map_cons, List.map_nil, List.replicate_succ, List.replicate_zero, List.cons_append, List.nil_append, List.append_nil, List.getElem?_cons_zero, List.getElem?_cons_succ, List.set_cons_zero, List.set_cons_succ, List.all_cons, List.all_nil, ↓reduceIte, Bool.or_true, Bool.true_or, Bool.or_false, Bool.false_or, Bool.and_true, Bool.true_and, Bool.and_false, Bool.false_and, Bool.not_true, Bool.not_false, if_true, if_false, Bool.false_eq_true, Nat.zero_add, Nat.add_zero, Nat.reduceAdd, Nat.reduceSub, Nat.reduceMul, Nat.reduceLeDiff, Nat.reduceEqDiff, Int.reduceAdd, Int.reduceSub, Int.reduceNeg, Int.reduceMul, Int.reduceLT, Int.reduceLE, Int.reduceEq, decide_true, decide_false, and_self, true_and, and_true, and_false, false_and, or_true, true_or, or_false, false_or, not_true_eq_false, not_false_eq_true, imm_d, cAtt_eq, cMake_eq, cMeth, vD, vI, vB, vS, vT, wAtt_Read_row, wMake_Read, wAtt_Wrong_place, wMake_Wrong, h1, hx, h2, notin_at, wEq_str, one_at, wNeg]
        exact ih
      · by_cases h3 : isMk c = true
        · rw [if_neg (fun h => h.elim h1 fun h => h (.inr h3)), if_neg h2]
          obtain ⟨x', ih⟩ := ih (due - 1) (some (.w (.d (.int p))))
          refine ⟨x', ?_⟩
          simp only [runD, rho0, sSeq, sIf, sRet, sRetL, sRetO, sAsg, sAsgL, sAsgO, sAug, sPar, sNil, sNever, sBreak, sCont, cVar, rd, cD, cOp1, cOp2, cT, wB, qAnd, qOr, qNot, cAnd, cOr, cNot, cIf, aNil, aCons, wDs, cTup, lLst, cL, wII, wIC, wAdd, wLen, wIsi, isTup, isStr, isInt, isBool, isLst, cCall, lCall, Res.val, W.im, imm, imms, noOwn, wIx_t0, wIx_t1, wEq_int, wNe_int, List.length_cons, List.length_nil, List.map_cons, List.map_nil, List.replicate_succ, List.replicate_zero, List.cons_append, List.nil_append, List.append_nil, List.getElem?_cons_zero, List.getElem?_cons_succ, List.set_cons_zero, List.set_cons_succ, List.all_cons, List.all_nil, ↓reduceIte, Bool.or_true, Bool.true_or, Bool.or_false, Bool.false_or, Bool.and_true, Bool.true_and, Bool.and_false, Bool.false_and, Bool.not_true, Bool.not_false, if_true, if_false, Bool.false_eq_true, Nat.zero_add, Nat.add_zero, Nat.reduceAdd, Nat.reduceSub, Nat.reduceMul, Nat.reduceLeDiff, Nat.reduceEqDiff, Int.reduceAdd, Int.reduceSub, Int.reduceNeg, Int.reduceMul, Int.reduceLT, Int.reduceLE, Int.reduceEq, decide_true, decide_false, and_self, true_and, and_true, and_false, false_and, or_true, true_or, or_false, false_or, not_true_eq_false, not_false_eq_true, imm_d, cAtt_eq, cMake_eq, cMeth, vD, vI, vB, vS, vT, wAtt_Read_row, wMake_Read, wAtt_Wrong_place, wMake_Wrong, h1, h2, h3, hx, notin_at, wEq_str, one_at, wNeg]
          rw [show due + -1 = due - 1 by omega]
          exact ih
        · rw [if_pos (.inr (fun h => h.elim h2 h3))]
          have h3' : isMk c = false := by simpa using h3
          refine ⟨x, ?_⟩
          simp only [runD, rho0, sSeq, sIf, sRet, sRetL, sRetO, sAsg, sAsgL, sAsgO, sAug, sPar, sNil, sNever, sBreak, sCont, cVar, rd, cD, cOp1, cOp2, cT, wB, qAnd, qOr, qNot, cAnd, cOr, cNot, cIf, aNil, aCons, wDs, cTup, lLst, cL, wII, wIC, wAdd, wLen, wIsi, isTup, isStr, isInt, isBool, isLst, cCall, lCall, Res.val, W.im, imm, imms, noOwn, wIx_t0, wIx_t1, wEq_int, wNe_int, List.length_cons, List.length_nil, List.map_cons, List.map_nil, List.replicate_succ, List.replicate_zero, List.cons_append, List.nil_append, List.append_nil, List.getElem?_cons_zero, List.getElem?_cons_succ, List.set_cons_zero, List.set_cons_succ, List.all_cons, List.all_nil, ↓reduceIte, Bool.or_true, Bool.true_or, Bool.or_false, Bool.false_or, Bool.and_true, Bool.true_and, Bool.and_false, Bool.false_and, Bool.not_true, Bool.not_false, if_true, if_false, Bool.false_eq_true, Nat.zero_add, Nat.add_zero, Nat.reduceAdd, Nat.reduceSub, Nat.reduceMul, Nat.reduceLeDiff, Nat.reduceEqDiff, Int.reduceAdd, Int.reduceSub, Int.reduceNeg, Int.reduceMul, Int.reduceLT, Int.reduceLE, Int.reduceEq, decide_true, decide_false, and_self, true_and, and_true, and_false, false_and, or_true, true_or, or_false, false_or, not_true_eq_false, not_false_eq_true, imm_d, cAtt_eq, cMake_eq, cMeth, vD, vI, vB, vS, vT, wAtt_Read_row, wMake_Read, wAtt_Wrong_place, wMake_Wrong, h1, h2, h3', hx, notin_at]
theorem law_wrong_ok (k : Nat) (hk : 1 ≤ k) (l : List Nat) (hl : l.length ≤ 100000) : callAt k 9 [.d (.str (sOf l))] = some (.w (.d (.int (wrong l)))) := by
  obtain ⟨k, rfl⟩ : ∃ j, k = j + 1 := ⟨k - 1, by omega⟩
  rw [c_law_wrong]
  have hr : -(2 ^ 62) ≤ (l.length : Int) ∧ (l.length : Int) < 2 ^ 62 := by omega
  simp only [runD, rho0, sSeq, List.length_cons, List.length_nil, List.map_cons, List.map_nil, List.replicate_succ, List.replicate_zero, List.cons_append, List.nil_append, List.append_nil, List.getElem?_cons_zero, List.getElem?_cons_succ, List.set_cons_zero, List.set_cons_succ, ↓reduceIte, if_true, if_false, Nat.reduceAdd, Nat.reduceSub, Nat.reduceMul, Nat.reduceLeDiff, Nat.reduceEqDiff, Nat.zero_add, Nat.add_zero, vD, vI, vB, vS, vT, m_law_wrong, i_law_wrong_1, sAsg, cD, W.im, imm, Bool.true_or, sFor, itR1, cOp1, wLen, cVar, rd, sOf_len, hl, hr, and_self, Int.toNat_natCast, rngD_stp]
  obtain ⟨x', this⟩ := lwrong_loop k l hl l 0 1 none rfl
  rw [show (((0 : Nat) : Int)) = 0 from rfl] at this
  rw [this]
  unfold wrong
  cases wz 1 0 l with
  | inl q => rfl
  | inr q =>
    by_cases h : 0 < q
    · simp only [runD, rho0, sSeq, sIf, sRet, sRetL, sRetO, sAsg, sAsgL, sAsgO, sAug, sPar, sNil, sNever, sBreak, sCont, cVar, rd, cD, cOp1, cOp2, cT, wB, qAnd, qOr, qNot, cAnd, cOr, cNot, cIf, aNil, aCons, wDs, cTup, lLst, cL, wII, wIC, wAdd, wLen, wIsi, isTup, isStr, isInt, isBool, isLst, cCall, lCall, Res.val, W.im, imm, imms, noOwn, wIx_t0, wIx_t1, wEq_int, wNe_int, List.length_cons, List.length_nil, List.map_cons, List.map_nil, List.replicate_succ, List.replicate_zero, List.cons_append, List.nil_append, List.append_nil, List.getElem?_cons_zero, List.getElem?_cons_succ, List.set_cons_zero, List.set_cons_succ, List.all_cons, List.all_nil, ↓reduceIte, Bool.or_true, Bool.true_or, Bool.or_false, Bool.false_or, Bool.and_true, Bool.true_and, Bool.and_false, Bool.false_and, Bool.not_true, Bool.not_false, if_true, if_false, Bool.false_eq_true, Nat.zero_add, Nat.add_zero, Nat.reduceAdd, Nat.reduceSub, Nat.reduceMul, Nat.reduceLeDiff, Nat.reduceEqDiff, Int.reduceAdd, Int.reduceSub, Int.reduceNeg, Int.reduceMul, Int.reduceLT, Int.reduceLE, Int.reduceEq, decide_true, decide_false, and_self, true_and, and_true, and_false, false_and, or_true, true_or, or_false, false_or, not_true_eq_false, not_false_eq_true, imm_d, cAtt_eq, cMake_eq, cMeth, vD, vI, vB, vS, vT, wAtt_Read_row, wMake_Read, wAtt_Wrong_place, wMake_Wrong, h, sOf_len, hl]
    · simp only [runD, rho0, sSeq, sIf, sRet, sRetL, sRetO, sAsg, sAsgL, sAsgO, sAug, sPar, sNil, sNever, sBreak, sCont, cVar, rd, cD, cOp1, cOp2, cT, wB, qAnd, qOr, qNot, cAnd, cOr, cNot, cIf, aNil, aCons, wDs, cTup, lLst, cL, wII, wIC, wAdd, wLen, wIsi, isTup, isStr, isInt, isBool, isLst, cCall, lCall, Res.val, W.im, imm, imms, noOwn, wIx_t0, wIx_t1, wEq_int, wNe_int, List.length_cons, List.length_nil, List.map_cons, List.map_nil, List.replicate_succ, List.replicate_zero, List.cons_append, List.nil_append, List.append_nil, List.getElem?_cons_zero, List.getElem?_cons_succ, List.set_cons_zero, List.set_cons_succ, List.all_cons, List.all_nil, ↓reduceIte, Bool.or_true, Bool.true_or, Bool.or_false, Bool.false_or, Bool.and_true, Bool.true_and, Bool.and_false, Bool.false_and, Bool.not_true, Bool.not_false, if_true, if_false, Bool.false_eq_true, Nat.zero_add, Nat.add_zero, Nat.reduceAdd, Nat.reduceSub, Nat.reduceMul, Nat.reduceLeDiff, Nat.reduceEqDiff, Int.reduceAdd, Int.reduceSub, Int.reduceNeg, Int.reduceMul, Int.reduceLT, Int.reduceLE, Int.reduceEq, decide_true, decide_false, and_self, true_and, and_true, and_false, false_and, or_true, true_or, or_false, false_or, not_true_eq_false, not_false_eq_true, imm_d, cAtt_eq, cMake_eq, cMeth, vD, vI, vB, vS, vT, wAtt_Read_row, wMake_Read, wAtt_Wrong_place, wMake_Wrong, h, wNeg]

end R
namespace R
open PySem L2 Nm
/-- the loop of row_of -/
theorem row_loop (k : Nat) (z : Option Sl) : ∀ (t : Tm) (st : List PyData) (x y w : Option Sl), t.row = true → st.length + t.lv ≤ 90000 →
    ∃ x' y' w', forR (gN 2) (b_row_of_1 (callAt k) k) (t.tx.reverse.map fun n => .str (sOf [n])) [z, some (.own st), x, y, w] = some [z, some (.own (st ++ [t.d])), x', y', w']
  | .nm _, _, _, _, _, h, _ => by cases h
  | .fn _, _, _, _, _, h, _ => by cases h
  | .mk m, st, x, y, w, _, hl => by
    have hlt : st.length < 100000 := by simp only [Tm.lv] at hl; omega
    have := c_ne_at m
    refine ⟨some (.w (.d (.str (sOf [m.c])))), y, w, ?_⟩
    simp only [runD, rho0, sSeq, sIf, sRet, sRetL, sRetO, sAsg, sAsgL, sAsgO, sAug, sPar, sNil, sNever, sBreak, sCont, cVar, rd, cD, cOp1, cOp2, cT, wB, qAnd, qOr, qNot, cAnd, cOr, cNot, cIf, aNil, aCons, wDs, cTup, lLst, cL, wII, wIC, wAdd, wLen, wIsi, isTup, isStr, isInt, isBool, isLst, cCall, lCall, Res.val, W.im, imm, imms, noOwn, wIx_t0, wIx_t1, wEq_int, wNe_int, List.length_cons, List.length_nil, List.map_cons, List.map_nil, List.replicate_succ, List.replicate_zero, List.cons_append, List.nil_append, List.append_nil, List.getElem?_cons_zero, List.getElem?_cons_succ, List.set_cons_zero, List.set_cons_succ, List.all_cons, List.all_nil, ↓reduceIte, Bool.or_true, Bool.true_or, Bool.or_false, Bool.false_or, Bool.and_true, Bool.true_and, Bool.and_false, Bool.false_and, Bool.not_true, Bool.not_false, if_true, if_false, Bool.false_eq_true, Nat.zero_add, Nat.add_zero, Nat.reduceAdd, Nat.reduceSub, Nat.reduceMul, Nat.reduceLeDiff, Nat.reduceEqDiff, Int.reduceAdd, Int.reduceSub, Int.reduceNeg, Int.reduceMul, Int.reduceLT, Int.reduceLE, Int.reduceEq, decide_true, decide_false, and_self, true_and, and_true, and_false, false_and, or_true, true_or, or_false, false_or, not_true_eq_false, not_false_eq_true, imm_d, cAtt_eq, cMake_eq, cMeth, vD, vI, vB, vS, vT, wAtt_Read_row, wMake_Read, wAtt_Wrong_place, wMake_Wrong, Tm.tx, List.reverse_cons, List.reverse_nil, forR, gN, b_row_of_1, wEq_str, one_at, this, sApp, hlt, Tm.d, mk_sOf]
  | .ap a b, st, x, y, w, h, hl => by
    have h' : a.row = true ∧ b.row = true := by simpa only [Tm.row, Bool.and_eq_true] using h
    simp only [Tm.lv] at hl
    have p1 := a.lv_pos
    have p2 := b.lv_pos
    obtain ⟨x1, y1, w1, e1⟩ := row_loop k z b st x y w h'.2 (by omega)
    obtain ⟨x2, y2, w2, e2⟩ := row_loop k z a (st ++ [b.d]) x1 y1 w1 h'.1 (by simp only [List.length_append, List.length_cons, List.length_nil]; omega)
    refine ⟨some (.w (.d (.str (sOf [64])))), some (.w (.d a.d)), some (.w (.d b.d)), ?_⟩
    have hlt : st.length < 100000 := by omega
    simp only [Tm.tx, List.reverse_cons, List.reverse_append, List.map_append, List.append_assoc]
    rw [forR_app _ _ _ _ e1, forR_app _ _ _ _ e2]
    have g1 : (st ++ [b.d] ++ [a.d]).getLast? = some a.d := by simp
    have g2 : (st ++ [b.d] ++ [a.d]).dropLast = st ++ [b.d] := by simp
    have g3 : (st ++ [b.d]).getLast? = some b.d := by simp
    have g4 : (st ++ [b.d]).dropLast = st := by simp
    simp only [runD, rho0, sSeq, sIf, sRet, sRetL, sRetO, sAsg, sAsgL, sAsgO, sAug, sPar, sNil, sNever, sBreak, sCont, cVar, rd, cD, cOp1, cOp2, cT, wB, qAnd, qOr, qNot, cAnd, cOr, cNot, cIf, aNil, aCons, wDs, cTup, lLst, cL, wII, wIC, wAdd, wLen, wIsi, isTup, isStr, isInt, isBool, isLst, cCall, lCall, Res.val, W.im, imm, imms, noOwn, wIx_t0, wIx_t1, wEq_int, wNe_int, List.length_cons, List.length_nil, List.map_cons, List.map_nil, List.replicate_succ, List.replicate_zero, List.cons_append, List.nil_append, List.append_nil, List.getElem?_cons_zero, List.getElem?_cons_succ, List.set_cons_zero, List.set_cons_succ, List.all_cons, List.all_nil, ↓reduceIte, Bool.or_true, Bool.true_or, Bool.or_false, Bool.false_or, Bool.and_true, Bool.true_and, Bool.and_false, Bool.false_and, Bool.not_true, Bool.not_false, if_true, if_false, Bool.false_eq_true, Nat.zero_add, Nat.add_zero, Nat.reduceAdd, Nat.reduceSub, Nat.reduceMul, Nat.reduceLeDiff, Nat.reduceEqDiff, Int.reduceAdd, Int.reduceSub, Int.reduceNeg, Int.reduceMul, Int.reduceLT, Int.reduceLE, Int.reduceEq, decide_true, decide_false, and_self, true_and, and_true, and_false, false_and, or_true, true_or, or_false, false_or, not_true_eq_false, not_false_eq_true, imm_d, cAtt_eq, cMake_eq, cMeth, vD, vI, vB, vS, vT, wAtt_Read_row, wMake_Read, wAtt_Wrong_place, wMake_Wrong, forR, gN, b_row_of_1, wEq_str, one_at, sPop2, g1, g2, g3, g4, sApp, hlt, Tm.d]
theorem row_of_ok (k : Nat) (hk : 1 ≤ k) (t : Tm) (h : t.row = true) (hl : t.lv ≤ 1000) : callAt k 2 [.d (.str (sOf t.tx))] = some (.w (.d t.d)) := by
  obtain ⟨k, rfl⟩ : ∃ j, k = j + 1 := ⟨k - 1, by omega⟩
  rw [c_row_of]
  have l1 := tx_len t h
  have h1 : (sOf t.tx.reverse).length ≤ 100000 := by rw [sOf_len, List.length_reverse]; omega
  simp only [runD, rho0, sSeq, List.length_cons, List.length_nil, List.map_cons, List.map_nil, List.replicate_succ, List.replicate_zero, List.cons_append, List.nil_append, List.append_nil, List.getElem?_cons_zero, List.getElem?_cons_succ, List.set_cons_zero, List.set_cons_succ, ↓reduceIte, if_true, if_false, Nat.reduceAdd, Nat.reduceSub, Nat.reduceMul, Nat.reduceLeDiff, Nat.reduceEqDiff, Nat.zero_add, Nat.add_zero, vD, vI, vB, vS, vT, m_row_of, i_row_of_1, sAsgO, lLst, aNil, wDs, imms, Nat.zero_le, sFor, itS, cRev, cVar, rd, revS_sOf, h1, chs, sOf_cps]
  obtain ⟨x, y, w, e⟩ := row_loop k (some (.w (.d (.str (sOf t.tx))))) t [] none none none h (by simp only [List.length_nil]; omega)
  have e' := forR_W _ _ _ e
  rw [e']
  simp only [runD, rho0, sSeq, sIf, sRet, sRetL, sRetO, sAsg, sAsgL, sAsgO, sAug, sPar, sNil, sNever, sBreak, sCont, cVar, rd, cD, cOp1, cOp2, cT, wB, qAnd, qOr, qNot, cAnd, cOr, cNot, cIf, aNil, aCons, wDs, cTup, lLst, cL, wII, wIC, wAdd, wLen, wIsi, isTup, isStr, isInt, isBool, isLst, cCall, lCall, Res.val, W.im, imm, imms, noOwn, wIx_t0, wIx_t1, wEq_int, wNe_int, List.length_cons, List.length_nil, List.map_cons, List.map_nil, List.replicate_succ, List.replicate_zero, List.cons_append, List.nil_append, List.append_nil, List.getElem?_cons_zero, List.getElem?_cons_succ, List.set_cons_zero, List.set_cons_succ, List.all_cons, List.all_nil, ↓reduceIte, Bool.or_true, Bool.true_or, Bool.or_false, Bool.false_or, Bool.and_true, Bool.true_and, Bool.and_false, Bool.false_and, Bool.not_true, Bool.not_false, if_true, if_false, Bool.false_eq_true, Nat.zero_add, Nat.add_zero, Nat.reduceAdd, Nat.reduceSub, Nat.reduceMul, Nat.reduceLeDiff, Nat.reduceEqDiff, Int.reduceAdd, Int.reduceSub, Int.reduceNeg, Int.reduceMul, Int.reduceLT, Int.reduceLE, Int.reduceEq, decide_true, decide_false, and_self, true_and, and_true, and_false, false_and, or_true, true_or, or_false, false_or, not_true_eq_false, not_false_eq_true, imm_d, cAtt_eq, cMake_eq, cMeth, vD, vI, vB, vS, vT, wAtt_Read_row, wMake_Read, wAtt_Wrong_place, wMake_Wrong]
  rfl

end R
namespace R
open PySem L2 Nm
theorem read_shows (k : Nat) (hk : 3 ≤ k) (l : List Nat) (hl : l.length ≤ 1999) (m : Tm) (hm : m.dep ≤ 199) : callAt k 11 [.o 1 [m.d], .d (.str (sOf l))] =
    some (.w (.d (.bool (decide (wrong l < 0 ∧ m.row = true ∧ m.tx = l))))) := by
  obtain ⟨k, rfl⟩ : ∃ j, k = j + 1 := ⟨k - 1, by omega⟩
  rw [c_Read_shows]
  have e1 := wrong_of_ok k (by omega) l (by omega)
  by_cases h : wrong l < 0
  · obtain ⟨t, ht, rfl⟩ := wrong_neg h
    have l1 := tx_len t ht
    have e2 := row_of_ok k (by omega) t ht (by omega)
    have d1 := row_dep t ht
    have e3 : wEq k (.d t.d) (.d m.d) = some (.d (.bool (decide (t = m)))) := by
      exact wEq_d (by omega)
    simp only [runD, rho0, sSeq, sIf, sRet, sRetL, sRetO, sAsg, sAsgL, sAsgO, sAug, sPar, sNil, sNever, sBreak, sCont, cVar, rd, cD, cOp1, cOp2, cT, wB, qAnd, qOr, qNot, cAnd, cOr, cNot, cIf, aNil, aCons, wDs, cTup, lLst, cL, wII, wIC, wAdd, wLen, wIsi, isTup, isStr, isInt, isBool, isLst, cCall, lCall, Res.val, W.im, imm, imms, noOwn, wIx_t0, wIx_t1, wEq_int, wNe_int, List.length_cons, List.length_nil, List.map_cons, List.map_nil, List.replicate_succ, List.replicate_zero, List.cons_append, List.nil_append, List.append_nil, List.getElem?_cons_zero, List.getElem?_cons_succ, List.set_cons_zero, List.set_cons_succ, List.all_cons, List.all_nil, ↓reduceIte, Bool.or_true, Bool.true_or, Bool.or_false, Bool.false_or, Bool.and_true, Bool.true_and, Bool.and_false, Bool.false_and, Bool.not_true, Bool.not_false, if_true, if_false, Bool.false_eq_true, Nat.zero_add, Nat.add_zero, Nat.reduceAdd, Nat.reduceSub, Nat.reduceMul, Nat.reduceLeDiff, Nat.reduceEqDiff, Int.reduceAdd, Int.reduceSub, Int.reduceNeg, Int.reduceMul, Int.reduceLT, Int.reduceLE, Int.reduceEq, decide_true, decide_false, and_self, true_and, and_true, and_false, false_and, or_true, true_or, or_false, false_or, not_true_eq_false, not_false_eq_true, imm_d, cAtt_eq, cMake_eq, cMeth, vD, vI, vB, vS, vT, wAtt_Read_row, wMake_Read, wAtt_Wrong_place, wMake_Wrong, m_Read_shows, e1, h, e2, e3]
    congr 4
    exact decide_eq_decide.mpr ⟨fun e => by subst e; exact ⟨ht, rfl⟩, fun ⟨hr, he⟩ => tx_inj ht hr he.symm⟩
  · simp only [runD, rho0, sSeq, sIf, sRet, sRetL, sRetO, sAsg, sAsgL, sAsgO, sAug, sPar, sNil, sNever, sBreak, sCont, cVar, rd, cD, cOp1, cOp2, cT, wB, qAnd, qOr, qNot, cAnd, cOr, cNot, cIf, aNil, aCons, wDs, cTup, lLst, cL, wII, wIC, wAdd, wLen, wIsi, isTup, isStr, isInt, isBool, isLst, cCall, lCall, Res.val, W.im, imm, imms, noOwn, wIx_t0, wIx_t1, wEq_int, wNe_int, List.length_cons, List.length_nil, List.map_cons, List.map_nil, List.replicate_succ, List.replicate_zero, List.cons_append, List.nil_append, List.append_nil, List.getElem?_cons_zero, List.getElem?_cons_succ, List.set_cons_zero, List.set_cons_succ, List.all_cons, List.all_nil, ↓reduceIte, Bool.or_true, Bool.true_or, Bool.or_false, Bool.false_or, Bool.and_true, Bool.true_and, Bool.and_false, Bool.false_and, Bool.not_true, Bool.not_false, if_true, if_false, Bool.false_eq_true, Nat.zero_add, Nat.add_zero, Nat.reduceAdd, Nat.reduceSub, Nat.reduceMul, Nat.reduceLeDiff, Nat.reduceEqDiff, Int.reduceAdd, Int.reduceSub, Int.reduceNeg, Int.reduceMul, Int.reduceLT, Int.reduceLE, Int.reduceEq, decide_true, decide_false, and_self, true_and, and_true, and_false, false_and, or_true, true_or, or_false, false_or, not_true_eq_false, not_false_eq_true, imm_d, cAtt_eq, cMake_eq, cMeth, vD, vI, vB, vS, vT, wAtt_Read_row, wMake_Read, wAtt_Wrong_place, wMake_Wrong, m_Read_shows, e1, h]
theorem wrong_shows (k : Nat) (hk : 3 ≤ k) (l : List Nat) (hl : l.length ≤ 1999) (p : Int) : callAt k 12 [.o 2 [.int p], .d (.str (sOf l))] =
    some (.w (.d (.bool (decide (0 ≤ p ∧ p = wrong l))))) := by
  obtain ⟨k, rfl⟩ : ∃ j, k = j + 1 := ⟨k - 1, by omega⟩
  rw [c_Wrong_shows]
  have e1 := wrong_of_ok k (by omega) l (by omega)
  by_cases h : 0 ≤ p
  · simp only [runD, rho0, sSeq, sIf, sRet, sRetL, sRetO, sAsg, sAsgL, sAsgO, sAug, sPar, sNil, sNever, sBreak, sCont, cVar, rd, cD, cOp1, cOp2, cT, wB, qAnd, qOr, qNot, cAnd, cOr, cNot, cIf, aNil, aCons, wDs, cTup, lLst, cL, wII, wIC, wAdd, wLen, wIsi, isTup, isStr, isInt, isBool, isLst, cCall, lCall, Res.val, W.im, imm, imms, noOwn, wIx_t0, wIx_t1, wEq_int, wNe_int, List.length_cons, List.length_nil, List.map_cons, List.map_nil, List.replicate_succ, List.replicate_zero, List.cons_append, List.nil_append, List.append_nil, List.getElem?_cons_zero, List.getElem?_cons_succ, List.set_cons_zero, List.set_cons_succ, List.all_cons, List.all_nil, ↓reduceIte, Bool.or_true, Bool.true_or, Bool.or_false, Bool.false_or, Bool.and_true, Bool.true_and, Bool.and_false, Bool.false_and, Bool.not_true, Bool.not_false, if_true, if_false, Bool.false_eq_true, Nat.zero_add, Nat.add_zero, Nat.reduceAdd, Nat.reduceSub, Nat.reduceMul, Nat.reduceLeDiff, Nat.reduceEqDiff, Int.reduceAdd, Int.reduceSub, Int.reduceNeg, Int.reduceMul, Int.reduceLT, Int.reduceLE, Int.reduceEq, decide_true, decide_false, and_self, true_and, and_true, and_false, false_and, or_true, true_or, or_false, false_or, not_true_eq_false, not_false_eq_true, imm_d, cAtt_eq, cMake_eq, cMeth, vD, vI, vB, vS, vT, wAtt_Read_row, wMake_Read, wAtt_Wrong_place, wMake_Wrong, m_Wrong_shows, e1, h]
  · simp only [runD, rho0, sSeq, sIf, sRet, sRetL, sRetO, sAsg, sAsgL, sAsgO, sAug, sPar, sNil, sNever, sBreak, sCont, cVar, rd, cD, cOp1, cOp2, cT, wB, qAnd, qOr, qNot, cAnd, cOr, cNot, cIf, aNil, aCons, wDs, cTup, lLst, cL, wII, wIC, wAdd, wLen, wIsi, isTup, isStr, isInt, isBool, isLst, cCall, lCall, Res.val, W.im, imm, imms, noOwn, wIx_t0, wIx_t1, wEq_int, wNe_int, List.length_cons, List.length_nil, List.map_cons, List.map_nil, List.replicate_succ, List.replicate_zero, List.cons_append, List.nil_append, List.append_nil, List.getElem?_cons_zero, List.getElem?_cons_succ, List.set_cons_zero, List.set_cons_succ, List.all_cons, List.all_nil, ↓reduceIte, Bool.or_true, Bool.true_or, Bool.or_false, Bool.false_or, Bool.and_true, Bool.true_and, Bool.and_false, Bool.false_and, Bool.not_true, Bool.not_false, if_true, if_false, Bool.false_eq_true, Nat.zero_add, Nat.add_zero, Nat.reduceAdd, Nat.reduceSub, Nat.reduceMul, Nat.reduceLeDiff, Nat.reduceEqDiff, Int.reduceAdd, Int.reduceSub, Int.reduceNeg, Int.reduceMul, Int.reduceLT, Int.reduceLE, Int.reduceEq, decide_true, decide_false, and_self, true_and, and_true, and_false, false_and, or_true, true_or, or_false, false_or, not_true_eq_false, not_false_eq_true, imm_d, cAtt_eq, cMake_eq, cMeth, vD, vI, vB, vS, vT, wAtt_Read_row, wMake_Read, wAtt_Wrong_place, wMake_Wrong, m_Wrong_shows, e1, h]

end R
namespace R
open PySem L2 Nm
theorem kS : ("K" : Str) = sOf [75] := by decide +kernel
theorem qS : ("?" : Str) = sOf [63] := by decide +kernel
theorem scr_hi (ns : List Int) (r : Rho) (m : Int) (h1 : 1 ≤ m) (h : rd r 0 = some (scr ns)) : ∃ hi : Int, 1 ≤ hi ∧ hi ≤ m ∧ cOp2 wMax (cI 1) (cOp2 wMin (cI m) (cOp1 wLen (cVar 0))) r = some (.d (.int hi)) := by
  refine ⟨if (if (ns.length : Int) < m then (ns.length : Int) else m) > 1 then (if (ns.length : Int) < m then (ns.length : Int) else m) else 1, ?_, ?_, ?_⟩
  · split <;> omega
  · split <;> split <;> omega
  · simp only [cOp2, cOp1, cD, cVar, h, scr, wLen, List.length_map, wII]
abbrev S16 (ns : List Int) (b cell at_ : Int) (t : Tm) (l : List Nat) (x4 x7 x8 x9 x10 : Option Sl) : Rho :=
  [some (.w (scr ns)), vI b, vI cell, vT t, x4, vI at_, vS (sOf l), x7, x8, x9, x10]
section
variable {k : Nat} (hk : 150 ≤ k) {ns : List Int} {b cell at_ : Int} {t : Tm} (ht : t.row = true) (hl : t.lv ≤ 20) {l : List Nat} (hll : l.length ≤ 100)
include hk ht hl hll
theorem mine_step (m : Tm) (hm : m ∈ [t, .ap (.mk .K) t, .mk .I, .nm 0, .fn (.nm 0), .ap t (.mk .K), .ap (.mk .S) (.nm 1)]) (x4 x9 x10 : Option Sl) :
    ∃ y9, b_law_3 (callAt k) k (S16 ns b cell at_ t l x4 (vI (wrong l)) (vT m) x9 x10) = some (.nx (S16 ns b cell at_ t l x4 (vI (wrong l)) (vT m) y9 x10)) := by
  have td := row_dep t ht
  have hrow : m ∈ [t, .mk .I, .ap (.mk .K) t, .ap t (.mk .K)] → m.row = true := fun hm => by
    simp only [List.mem_cons, List.not_mem_nil, or_false] at hm
    rcases hm with rfl | rfl | rfl | rfl <;> simp [Tm.row, ht]
  have hdep : m.dep ≤ 30 ∧ m.lv ≤ 30 ∧ (¬ m ∈ [t, .mk .I, .ap (.mk .K) t, .ap t (.mk .K)] → m.row = false) := by
    simp only [List.mem_cons, List.not_mem_nil, or_false] at hm ⊢
    rcases hm with rfl | rfl | rfl | rfl | rfl | rfl | rfl <;> refine ⟨by (try simp only [Tm.dep]); omega, by (try simp only [Tm.lv]); omega, fun h => ?_⟩ <;> first | rfl | (exfalso; revert h; simp)
  have ei := wIn_tms (k := k) (m := m) (by omega) [t, .mk .I, .ap (.mk .K) t, .ap t (.mk .K)]
  simp only [List.map_cons, List.map_nil, Tm.d, Mkr.s] at ei
  have es := read_shows k (by omega) l (by omega) m (by omega)
  have en : wNe k (.d m.d) (.d m.d) = some (.d (.bool false)) := by rw [wNe_d (by omega), decide_eq_true rfl]; rfl
  have k2 : 2 ≤ k := by omega
  obtain ⟨B, hB⟩ : ∃ B : Bool, B = decide (wrong l < 0 ∧ m.row = true ∧ m.tx = l) := ⟨_, rfl⟩
  rw [← hB] at es
  have fin := says_ok k (by omega) B B
  rw [decide_eq_true rfl] at fin
  refine ⟨vB B, ?_⟩
  by_cases h : wrong l < 0
  · by_cases hin : m ∈ [t, .mk .I, .ap (.mk .K) t, .ap t (.mk .K)]
    · have et := law_text_ok m k (hrow hin) (by omega) (by omega)
      have eb : decide (sOf m.tx = sOf l) = B := by
        rw [hB]
        simp only [h, hrow hin, true_and, sOf_inj]
      simp only [runD, rho0, sSeq, sIf, sRet, sRetL, sRetO, sAsg, sAsgL, sAsgO, sAug, sPar, sNil, sNever, sBreak, sCont, cVar, rd, cD, cOp1, cOp2, cT, wB, qAnd, qOr, qNot, cAnd, cOr, cNot, cIf, aNil, aCons, wDs, cTup, lLst, cL, wII, wIC, wAdd, wLen, wIsi, isTup, isStr, isInt, isBool, isLst, cCall, lCall, Res.val, W.im, imm, imms, noOwn, wIx_t0, wIx_t1, wEq_int, wNe_int, List.length_cons, List.length_nil, List.map_cons, List.map_nil, List.replicate_succ, List.replicate_zero, List.cons_append, List.nil_append, List.append_nil, List.getElem?_cons_zero, List.getElem?_cons_succ, List.set_cons_zero, List.set_cons_succ, List.all_cons, List.all_nil, ↓reduceIte, Bool.or_true, Bool.true_or, Bool.or_false, Bool.false_or, Bool.and_true, Bool.true_and, Bool.and_false, Bool.false_and, Bool.not_true, Bool.not_false, if_true, if_false, Bool.false_eq_true, Nat.zero_add, Nat.add_zero, Nat.reduceAdd, Nat.reduceSub, Nat.reduceMul, Nat.reduceLeDiff, Nat.reduceEqDiff, Int.reduceAdd, Int.reduceSub, Int.reduceNeg, Int.reduceMul, Int.reduceLT, Int.reduceLE, Int.reduceEq, decide_true, decide_false, and_self, true_and, and_true, and_false, false_and, or_true, true_or, or_false, false_or, not_true_eq_false, not_false_eq_true, imm_d, cAtt_eq, cMake_eq, cMeth, vD, vI, vB, vS, vT, wAtt_Read_row, wMake_Read, wAtt_Wrong_place, wMake_Wrong, b_law_3, h, ei, hin, et, wEq_str, eb, k2, en, es, fin]
    · have eb : B = false := by rw [hB]; simp [hdep.2.2 hin]
      subst eb
      simp only [runD, rho0, sSeq, sIf, sRet, sRetL, sRetO, sAsg, sAsgL, sAsgO, sAug, sPar, sNil, sNever, sBreak, sCont, cVar, rd, cD, cOp1, cOp2, cT, wB, qAnd, qOr, qNot, cAnd, cOr, cNot, cIf, aNil, aCons, wDs, cTup, lLst, cL, wII, wIC, wAdd, wLen, wIsi, isTup, isStr, isInt, isBool, isLst, cCall, lCall, Res.val, W.im, imm, imms, noOwn, wIx_t0, wIx_t1, wEq_int, wNe_int, List.length_cons, List.length_nil, List.map_cons, List.map_nil, List.replicate_succ, List.replicate_zero, List.cons_append, List.nil_append, List.append_nil, List.getElem?_cons_zero, List.getElem?_cons_succ, List.set_cons_zero, List.set_cons_succ, List.all_cons, List.all_nil, ↓reduceIte, Bool.or_true, Bool.true_or, Bool.or_false, Bool.false_or, Bool.and_true, Bool.true_and, Bool.and_false, Bool.false_and, Bool.not_true, Bool.not_false, if_true, if_false, Bool.false_eq_true, Nat.zero_add, Nat.add_zero, Nat.reduceAdd, Nat.reduceSub, Nat.reduceMul, Nat.reduceLeDiff, Nat.reduceEqDiff, Int.reduceAdd, Int.reduceSub, Int.reduceNeg, Int.reduceMul, Int.reduceLT, Int.reduceLE, Int.reduceEq, decide_true, decide_false, and_self, true_and, and_true, and_false, false_and, or_true, true_or, or_false, false_or, not_true_eq_false, not_false_eq_true, imm_d, cAtt_eq, cMake_eq, cMeth, vD, vI, vB, vS, vT, wAtt_Read_row, wMake_Read, wAtt_Wrong_place, wMake_Wrong, b_law_3, h, ei, hin, k2, en, es, fin]
  · have eb : B = false := by rw [hB]; simp [h]
    subst eb
    simp only [runD, rho0, sSeq, sIf, sRet, sRetL, sRetO, sAsg, sAsgL, sAsgO, sAug, sPar, sNil, sNever, sBreak, sCont, cVar, rd, cD, cOp1, cOp2, cT, wB, qAnd, qOr, qNot, cAnd, cOr, cNot, cIf, aNil, aCons, wDs, cTup, lLst, cL, wII, wIC, wAdd, wLen, wIsi, isTup, isStr, isInt, isBool, isLst, cCall, lCall, Res.val, W.im, imm, imms, noOwn, wIx_t0, wIx_t1, wEq_int, wNe_int, List.length_cons, List.length_nil, List.map_cons, List.map_nil, List.replicate_succ, List.replicate_zero, List.cons_append, List.nil_append, List.append_nil, List.getElem?_cons_zero, List.getElem?_cons_succ, List.set_cons_zero, List.set_cons_succ, List.all_cons, List.all_nil, ↓reduceIte, Bool.or_true, Bool.true_or, Bool.or_false, Bool.false_or, Bool.and_true, Bool.true_and, Bool.and_false, Bool.false_and, Bool.not_true, Bool.not_false, if_true, if_false, Bool.false_eq_true, Nat.zero_add, Nat.add_zero, Nat.reduceAdd, Nat.reduceSub, Nat.reduceMul, Nat.reduceLeDiff, Nat.reduceEqDiff, Int.reduceAdd, Int.reduceSub, Int.reduceNeg, Int.reduceMul, Int.reduceLT, Int.reduceLE, Int.reduceEq, decide_true, decide_false, and_self, true_and, and_true, and_false, false_and, or_true, true_or, or_false, false_or, not_true_eq_false, not_false_eq_true, imm_d, cAtt_eq, cMake_eq, cMeth, vD, vI, vB, vS, vT, wAtt_Read_row, wMake_Read, wAtt_Wrong_place, wMake_Wrong, b_law_3, h, k2, en, es, fin]
theorem spot_step (p : Int) (x4 x8 x9 : Option Sl) :
    ∃ y9, b_law_4 (callAt k) k (S16 ns b cell at_ t l x4 (vI (wrong l)) x8 x9 (vI p)) = some (.nx (S16 ns b cell at_ t l x4 (vI (wrong l)) x8 y9 (vI p))) := by
  have es := wrong_shows k (by omega) l (by omega) p
  have k2 : 2 ≤ k := by omega
  obtain ⟨B, hB⟩ : ∃ B : Bool, B = decide (0 ≤ p ∧ p = wrong l) := ⟨_, rfl⟩
  rw [← hB] at es
  have fin := says_ok k (by omega) B B
  rw [decide_eq_true rfl] at fin
  refine ⟨vB B, ?_⟩
  by_cases h : 0 ≤ wrong l
  · have eb : decide (p = wrong l) = B := by
      rw [hB]
      by_cases hq : p = wrong l
      · simp only [hq, h, and_self]
      · simp only [hq, and_false]
    simp only [runD, rho0, sSeq, sIf, sRet, sRetL, sRetO, sAsg, sAsgL, sAsgO, sAug, sPar, sNil, sNever, sBreak, sCont, cVar, rd, cD, cOp1, cOp2, cT, wB, qAnd, qOr, qNot, cAnd, cOr, cNot, cIf, aNil, aCons, wDs, cTup, lLst, cL, wII, wIC, wAdd, wLen, wIsi, isTup, isStr, isInt, isBool, isLst, cCall, lCall, Res.val, W.im, imm, imms, noOwn, wIx_t0, wIx_t1, wEq_int, wNe_int, List.length_cons, List.length_nil, List.map_cons, List.map_nil, List.replicate_succ, List.replicate_zero, List.cons_append, List.nil_append, List.append_nil, List.getElem?_cons_zero, List.getElem?_cons_succ, List.set_cons_zero, List.set_cons_succ, List.all_cons, List.all_nil, ↓reduceIte, Bool.or_true, Bool.true_or, Bool.or_false, Bool.false_or, Bool.and_true, Bool.true_and, Bool.and_false, Bool.false_and, Bool.not_true, Bool.not_false, if_true, if_false, Bool.false_eq_true, Nat.zero_add, Nat.add_zero, Nat.reduceAdd, Nat.reduceSub, Nat.reduceMul, Nat.reduceLeDiff, Nat.reduceEqDiff, Int.reduceAdd, Int.reduceSub, Int.reduceNeg, Int.reduceMul, Int.reduceLT, Int.reduceLE, Int.reduceEq, decide_true, decide_false, and_self, true_and, and_true, and_false, false_and, or_true, true_or, or_false, false_or, not_true_eq_false, not_false_eq_true, imm_d, cAtt_eq, cMake_eq, cMeth, vD, vI, vB, vS, vT, wAtt_Read_row, wMake_Read, wAtt_Wrong_place, wMake_Wrong, b_law_4, h, eb, k2, es, fin]
  · have eb : B = false := by rw [hB]; exact decide_eq_false (by omega)
    subst eb
    simp only [runD, rho0, sSeq, sIf, sRet, sRetL, sRetO, sAsg, sAsgL, sAsgO, sAug, sPar, sNil, sNever, sBreak, sCont, cVar, rd, cD, cOp1, cOp2, cT, wB, qAnd, qOr, qNot, cAnd, cOr, cNot, cIf, aNil, aCons, wDs, cTup, lLst, cL, wII, wIC, wAdd, wLen, wIsi, isTup, isStr, isInt, isBool, isLst, cCall, lCall, Res.val, W.im, imm, imms, noOwn, wIx_t0, wIx_t1, wEq_int, wNe_int, List.length_cons, List.length_nil, List.map_cons, List.map_nil, List.replicate_succ, List.replicate_zero, List.cons_append, List.nil_append, List.append_nil, List.getElem?_cons_zero, List.getElem?_cons_succ, List.set_cons_zero, List.set_cons_succ, List.all_cons, List.all_nil, ↓reduceIte, Bool.or_true, Bool.true_or, Bool.or_false, Bool.false_or, Bool.and_true, Bool.true_and, Bool.and_false, Bool.false_and, Bool.not_true, Bool.not_false, if_true, if_false, Bool.false_eq_true, Nat.zero_add, Nat.add_zero, Nat.reduceAdd, Nat.reduceSub, Nat.reduceMul, Nat.reduceLeDiff, Nat.reduceEqDiff, Int.reduceAdd, Int.reduceSub, Int.reduceNeg, Int.reduceMul, Int.reduceLT, Int.reduceLE, Int.reduceEq, decide_true, decide_false, and_self, true_and, and_true, and_false, false_and, or_true, true_or, or_false, false_or, not_true_eq_false, not_false_eq_true, imm_d, cAtt_eq, cMake_eq, cMeth, vD, vI, vB, vS, vT, wAtt_Read_row, wMake_Read, wAtt_Wrong_place, wMake_Wrong, b_law_4, h, k2, es, fin]
theorem one_step (x4 x7 x8 x9 x10 : Option Sl) : ∃ y7 y8 y9 y10, b_law_2 (callAt k) k (S16 ns b cell at_ t l x4 x7 x8 x9 x10) = some (.nx (S16 ns b cell at_ t l x4 y7 y8 y9 y10)) := by
  have ew := law_wrong_ok k (by omega) l (by omega)
  have em : i_law_3 (callAt k) k (S16 ns b cell at_ t l x4 (vI (wrong l)) x8 x9 x10) = some ([t, .ap (.mk .K) t, .mk .I, .nm 0, .fn (.nm 0), .ap t (.mk .K), .ap (.mk .S) (.nm 1)].map Tm.d) := by
    simp only [runD, rho0, sSeq, sIf, sRet, sRetL, sRetO, sAsg, sAsgL, sAsgO, sAug, sPar, sNil, sNever, sBreak, sCont, cVar, rd, cD, cOp1, cOp2, cT, wB, qAnd, qOr, qNot, cAnd, cOr, cNot, cIf, aNil, aCons, wDs, cTup, lLst, cL, wII, wIC, wAdd, wLen, wIsi, isTup, isStr, isInt, isBool, isLst, cCall, lCall, Res.val, W.im, imm, imms, noOwn, wIx_t0, wIx_t1, wEq_int, wNe_int, List.length_cons, List.length_nil, List.map_cons, List.map_nil, List.replicate_succ, List.replicate_zero, List.cons_append, List.nil_append, List.append_nil, List.getElem?_cons_zero, List.getElem?_cons_succ, List.set_cons_zero, List.set_cons_succ, List.all_cons, List.all_nil, ↓reduceIte, Bool.or_true, Bool.true_or, Bool.or_false, Bool.false_or, Bool.and_true, Bool.true_and, Bool.and_false, Bool.false_and, Bool.not_true, Bool.not_false, if_true, if_false, Bool.false_eq_true, Nat.zero_add, Nat.add_zero, Nat.reduceAdd, Nat.reduceSub, Nat.reduceMul, Nat.reduceLeDiff, Nat.reduceEqDiff, Int.reduceAdd, Int.reduceSub, Int.reduceNeg, Int.reduceMul, Int.reduceLT, Int.reduceLE, Int.reduceEq, decide_true, decide_false, and_self, true_and, and_true, and_false, false_and, or_true, true_or, or_false, false_or, not_true_eq_false, not_false_eq_true, imm_d, cAtt_eq, cMake_eq, cMeth, vD, vI, vB, vS, vT, wAtt_Read_row, wMake_Read, wAtt_Wrong_place, wMake_Wrong, i_law_3, itT, Tm.d, Mkr.s]
  obtain ⟨r2, h1, h2⟩ := sFor_keep (g := gN 8) (h := b_law_3 (callAt k) k) (fun r => ∃ y8 y9, r = S16 ns b cell at_ t l x4 (vI (wrong l)) y8 y9 x10) em ⟨x8, x9, rfl⟩ fun d r hd hr => by
      obtain ⟨m, hm, rfl⟩ := List.mem_map.mp hd
      obtain ⟨y8, y9, rfl⟩ := hr
      obtain ⟨z9, hz⟩ := mine_step hk ht hl hll (ns := ns) (b := b) (cell := cell) (at_ := at_) m hm x4 y9 x10
      exact ⟨_, _, rfl, .inl hz, _, _, rfl⟩
  obtain ⟨y8, y9, rfl⟩ := h2
  have p20 : (0 : Int) ≤ 20 ∧ (20 : Int) ≤ 1000000 ∧ (10 : Int).natAbs < 2 ^ 64 := by decide
  have hll2 : l.length ≤ 100000 := by omega
  have eq : i_law_4 (callAt k) k (S16 ns b cell at_ t l x4 (vI (wrong l)) y8 y9 x10) = some ([wrong l, wrong l + 1, wrong l - 1, 0, -1, 10 ^ Int.toNat 20, l.length].map PyData.int) := by
    simp only [runD, rho0, sSeq, sIf, sRet, sRetL, sRetO, sAsg, sAsgL, sAsgO, sAug, sPar, sNil, sNever, sBreak, sCont, cVar, rd, cD, cOp1, cOp2, cT, wB, qAnd, qOr, qNot, cAnd, cOr, cNot, cIf, aNil, aCons, wDs, cTup, lLst, cL, wII, wIC, wAdd, wLen, wIsi, isTup, isStr, isInt, isBool, isLst, cCall, lCall, Res.val, W.im, imm, imms, noOwn, wIx_t0, wIx_t1, wEq_int, wNe_int, List.length_cons, List.length_nil, List.map_cons, List.map_nil, List.replicate_succ, List.replicate_zero, List.cons_append, List.nil_append, List.append_nil, List.getElem?_cons_zero, List.getElem?_cons_succ, List.set_cons_zero, List.set_cons_succ, List.all_cons, List.all_nil, ↓reduceIte, Bool.or_true, Bool.true_or, Bool.or_false, Bool.false_or, Bool.and_true, Bool.true_and, Bool.and_false, Bool.false_and, Bool.not_true, Bool.not_false, if_true, if_false, Bool.false_eq_true, Nat.zero_add, Nat.add_zero, Nat.reduceAdd, Nat.reduceSub, Nat.reduceMul, Nat.reduceLeDiff, Nat.reduceEqDiff, Int.reduceAdd, Int.reduceSub, Int.reduceNeg, Int.reduceMul, Int.reduceLT, Int.reduceLE, Int.reduceEq, decide_true, decide_false, and_self, true_and, and_true, and_false, false_and, or_true, true_or, or_false, false_or, not_true_eq_false, not_false_eq_true, imm_d, cAtt_eq, cMake_eq, cMeth, vD, vI, vB, vS, vT, wAtt_Read_row, wMake_Read, wAtt_Wrong_place, wMake_Wrong, i_law_4, itT, wNeg, p20, sOf_len, hll2]
  obtain ⟨r3, h3, h4⟩ := sFor_keep (g := gN 10) (h := b_law_4 (callAt k) k) (fun r => ∃ z9 z10, r = S16 ns b cell at_ t l x4 (vI (wrong l)) y8 z9 z10) eq ⟨y9, x10, rfl⟩ fun d r hd hr => by
      obtain ⟨p, hp, rfl⟩ := List.mem_map.mp hd
      obtain ⟨z9, z10, rfl⟩ := hr
      obtain ⟨w9, hw⟩ := spot_step hk ht hl hll (ns := ns) (b := b) (cell := cell) (at_ := at_) p x4 y8 z9
      exact ⟨_, _, rfl, .inl hw, _, _, rfl⟩
  obtain ⟨z9, z10, rfl⟩ := h4
  refine ⟨vI (wrong l), y8, z9, z10, ?_⟩
  have e1 : sAsg 7 (cCall (callAt k) 9 (aCons (cVar 6) aNil)) (S16 ns b cell at_ t l x4 x7 x8 x9 x10) = some (.nx (S16 ns b cell at_ t l x4 (vI (wrong l)) x8 x9 x10)) := by simp only [runD, rho0, sSeq, sIf, sRet, sRetL, sRetO, sAsg, sAsgL, sAsgO, sAug, sPar, sNil, sNever, sBreak, sCont, cVar, rd, cD, cOp1, cOp2, cT, wB, qAnd, qOr, qNot, cAnd, cOr, cNot, cIf, aNil, aCons, wDs, cTup, lLst, cL, wII, wIC, wAdd, wLen, wIsi, isTup, isStr, isInt, isBool, isLst, cCall, lCall, Res.val, W.im, imm, imms, noOwn, wIx_t0, wIx_t1, wEq_int, wNe_int, List.length_cons, List.length_nil, List.map_cons, List.map_nil, List.replicate_succ, List.replicate_zero, List.cons_append, List.nil_append, List.append_nil, List.getElem?_cons_zero, List.getElem?_cons_succ, List.set_cons_zero, List.set_cons_succ, List.all_cons, List.all_nil, ↓reduceIte, Bool.or_true, Bool.true_or, Bool.or_false, Bool.false_or, Bool.and_true, Bool.true_and, Bool.and_false, Bool.false_and, Bool.not_true, Bool.not_false, if_true, if_false, Bool.false_eq_true, Nat.zero_add, Nat.add_zero, Nat.reduceAdd, Nat.reduceSub, Nat.reduceMul, Nat.reduceLeDiff, Nat.reduceEqDiff, Int.reduceAdd, Int.reduceSub, Int.reduceNeg, Int.reduceMul, Int.reduceLT, Int.reduceLE, Int.reduceEq, decide_true, decide_false, and_self, true_and, and_true, and_false, false_and, or_true, true_or, or_false, false_or, not_true_eq_false, not_false_eq_true, imm_d, cAtt_eq, cMake_eq, cMeth, vD, vI, vB, vS, vT, wAtt_Read_row, wMake_Read, wAtt_Wrong_place, wMake_Wrong, ew]
  unfold b_law_2 sSeq
  rw [e1]
  simp only []
  rw [h1]
  exact h3
end
theorem by_step (k : Nat) (hk : 150 ≤ k) (ns : List Int) (hs : okScr ns) (b : Int) (h0 : 0 ≤ b) (h1 : b ≤ 100) (x2 x3 x4 x5 x6 x7 x8 x9 x10 : Option Sl) :
    ∃ y2 y3 y4 y5 y6 y7 y8 y9 y10, b_law_1 (callAt k) k [some (.w (scr ns)), vI b, x2, x3, x4, x5, x6, x7, x8, x9, x10] = some (.nx [some (.w (scr ns)), vI b, y2, y3, y4, y5, y6, y7, y8, y9, y10]) := by
  obtain ⟨z, hz, ez⟩ := cell_ok hs k (by omega) b h0
  obtain ⟨u, u0, u1, eu⟩ := number_ok k (by omega) z (b + 1) 10 (by omega) (by omega) (by decide)
  obtain ⟨t, ht, et⟩ := term_ok hs ((1 + u).toNat + 3) k b (1 + u) 0 2 10 (by omega) (by omega) h0 (by omega) (by omega) (by omega) (by omega) (by decide) (by decide) (by decide) (by decide)
  have hr := ht.rows
  have hv := ht.lv
  have hd := row_dep t hr
  have hx := tx_len t hr
  have ex := law_text_ok t k hr (by omega) (by omega)
  have px := t.lv_pos
  obtain ⟨w, w0, w1, ew⟩ := number_ok k (by omega) z (b + 2) t.tx.length (by omega) (by omega) (by omega)
  have hln : t.tx.length ≤ 100000 := by omega
  have e1 : ∀ g : CS, sSeq (sAsg 2 (cCall (callAt k) 3 (aCons (cVar 0) (aCons (cVar 1) aNil)))) (sSeq (sAsg 3 (cCall (callAt k) 6 (aCons (cVar 0) (aCons (cVar 1) (aCons (cOp2 wAdd (cI 1) (cCall (callAt k) 5 (aCons (cVar 2) (aCons (cOp2 wAdd (cVar 1) (cI 1)) (aCons (cI 10) aNil))))) (aCons (cI 0) (aCons (cI 2) aNil)))))))
    (sSeq (sAsg 4 (cCall (callAt k) 7 (aCons (cVar 3) aNil)))
    (sSeq (sAsg 5 (cCall (callAt k) 5 (aCons (cVar 2) (aCons (cOp2 wAdd (cVar 1) (cI 2)) (aCons (cOp1 wLen (cVar 4)) aNil))))) g))) [some (.w (scr ns)), vI b, x2, x3, x4, x5, x6, x7, x8, x9, x10] =
      g [some (.w (scr ns)), vI b, vI z, vT t, vS (sOf t.tx), vI w, x6, x7, x8, x9, x10] := fun g => by
    simp only [runD, rho0, sSeq, sIf, sRet, sRetL, sRetO, sAsg, sAsgL, sAsgO, sAug, sPar, sNil, sNever, sBreak, sCont, cVar, rd, cD, cOp1, cOp2, cT, wB, qAnd, qOr, qNot, cAnd, cOr, cNot, cIf, aNil, aCons, wDs, cTup, lLst, cL, wII, wIC, wAdd, wLen, wIsi, isTup, isStr, isInt, isBool, isLst, cCall, lCall, Res.val, W.im, imm, imms, noOwn, wIx_t0, wIx_t1, wEq_int, wNe_int, List.length_cons, List.length_nil, List.map_cons, List.map_nil, List.replicate_succ, List.replicate_zero, List.cons_append, List.nil_append, List.append_nil, List.getElem?_cons_zero, List.getElem?_cons_succ, List.set_cons_zero, List.set_cons_succ, List.all_cons, List.all_nil, ↓reduceIte, Bool.or_true, Bool.true_or, Bool.or_false, Bool.false_or, Bool.and_true, Bool.true_and, Bool.and_false, Bool.false_and, Bool.not_true, Bool.not_false, if_true, if_false, Bool.false_eq_true, Nat.zero_add, Nat.add_zero, Nat.reduceAdd, Nat.reduceSub, Nat.reduceMul, Nat.reduceLeDiff, Nat.reduceEqDiff, Int.reduceAdd, Int.reduceSub, Int.reduceNeg, Int.reduceMul, Int.reduceLT, Int.reduceLE, Int.reduceEq, decide_true, decide_false, and_self, true_and, and_true, and_false, false_and, or_true, true_or, or_false, false_or, not_true_eq_false, not_false_eq_true, imm_d, cAtt_eq, cMake_eq, cMeth, vD, vI, vB, vS, vT, wAtt_Read_row, wMake_Read, wAtt_Wrong_place, wMake_Wrong, ez, eu, et, ex, sOf_len, hln, ew]
  unfold b_law_1
  rw [e1]
  have ei : ∃ ls : List (List Nat), (∀ l ∈ ls, l.length ≤ 100) ∧ i_law_2 (callAt k) k [some (.w (scr ns)), vI b, vI z, vT t, vS (sOf t.tx), vI w, x6, x7, x8, x9, x10] = some (ls.map fun l => .str (sOf l)) := by
    refine ⟨[t.tx, t.tx.take w.toNat, t.tx ++ [75], (t.tx.take w.toNat ++ [63]) ++ t.tx.drop w.toNat, 64 :: t.tx], ?_, ?_⟩
    · intro l hl
      simp only [List.mem_cons, List.not_mem_nil, or_false] at hl
      rcases hl with rfl | rfl | rfl | rfl | rfl <;> (try simp only [List.length_cons, List.length_nil, List.length_append, List.length_take, List.length_drop]) <;> omega
    · have c1 : cutS (sOf t.tx) none (some w) = sOf (t.tx.take w.toNat) := by
        rw [cutS_sOf]
        have : HT.sIx t.tx.length t.tx.length (some w) = w.toNat := by simp only [HT.sIx]; rw [if_neg (by omega)]; omega
        rw [this]; rfl
      have c2 : cutS (sOf t.tx) (some w) none = sOf (t.tx.drop w.toNat) := by
        rw [cutS_sOf]
        have : HT.sIx t.tx.length 0 (some w) = w.toNat := by simp only [HT.sIx]; rw [if_neg (by omega)]; omega
        rw [this, HT.sIx_none, List.take_of_length_le (by simp)]
      have a1 := wAdd_s t.tx [75] (by simp only [List.length_cons, List.length_nil]; omega)
      have a2 := wAdd_s (t.tx.take w.toNat) [63] (by simp only [List.length_cons, List.length_nil, List.length_take]; omega)
      have a3 := wAdd_s (t.tx.take w.toNat ++ [63]) (t.tx.drop w.toNat) (by simp only [List.length_cons, List.length_nil, List.length_take, List.length_append, List.length_drop]; omega)
      have a4 := wAdd_s [64] t.tx (by simp only [List.length_cons, List.length_nil]; omega)
      simp only [i_law_2, itT, cTup, aCons, aNil, cVar, rd, List.getElem?_cons_zero, List.getElem?_cons_succ, cSlS, oNone, oSome, sOf_len, hln, if_true, c1, c2, cOp2, cD, kS, qS, at_s, a1, a2, a3, a4, wDs, List.length_cons, List.length_nil, Nat.reduceAdd, Nat.reduceLeDiff, imms, imm, Bool.and_true, Bool.true_or]
      rfl
  obtain ⟨ls, hls, ei⟩ := ei
  obtain ⟨r3, h3, h4⟩ := sFor_keep (g := gN 6) (h := b_law_2 (callAt k) k) (fun r => ∃ y6 y7 y8 y9 y10, r = [some (.w (scr ns)), vI b, vI z, vT t, vS (sOf t.tx), vI w, y6, y7, y8, y9, y10]) ei ⟨_, _, _, _, _, rfl⟩ fun d r hd hr' => by
      obtain ⟨l, hl, rfl⟩ := List.mem_map.mp hd
      obtain ⟨y6, y7, y8, y9, y10, rfl⟩ := hr'
      obtain ⟨z7, z8, z9, z10, hw⟩ := one_step hk hr (by omega) (hls l hl) (ns := ns) (b := b) (cell := z) (at_ := w) (vS (sOf t.tx)) y7 y8 y9 y10
      exact ⟨_, _, rfl, .inl hw, _, _, _, _, _, rfl⟩
  obtain ⟨y6, y7, y8, y9, y10, rfl⟩ := h4
  exact ⟨_, _, _, _, _, _, _, _, _, h3⟩
theorem main (ns : List Int) (h63 : ns.length ≤ 63) (hb : ∀ z ∈ ns, Builtin.Int.intBits z ≤ 1048576) : callAt (LK + 1) 10 (inp ns) = some yes := by
  have hs : okScr ns := ⟨h63, hb⟩
  rw [c_law]
  show runD _ _ _ [scr ns] = _
  obtain ⟨hi, i1, i2, i3⟩ := scr_hi ns [some (.w (scr ns)), none, none, none, none, none, none, none, none, none, none] 12 (by decide) rfl
  obtain ⟨n, hn, e3⟩ := itR3_scr (n := 0) hi 3 i3 i1 i2 (by decide) (by decide)
  obtain ⟨r3, h3, h4⟩ := sFor_keep (g := gN 1) (f := i_law_1 (callAt LK) LK) (h := b_law_1 (callAt LK) LK) (fun r => ∃ y1 y2 y3 y4 y5 y6 y7 y8 y9 y10, r = [some (.w (scr ns)), y1, y2, y3, y4, y5, y6, y7, y8, y9, y10]) e3 ⟨_, _, _, _, _, _, _, _, _, _, rfl⟩ fun d r hd hr' => by
      obtain ⟨i, hi, rfl⟩ := stp_mem _ _ _ _ hd
      obtain ⟨y1, y2, y3, y4, y5, y6, y7, y8, y9, y10, rfl⟩ := hr'
      obtain ⟨z2, z3, z4, z5, z6, z7, z8, z9, z10, hw⟩ := by_step LK (by decide) ns hs (0 + i * 3) (by omega) (by omega) y2 y3 y4 y5 y6 y7 y8 y9 y10
      exact ⟨_, _, rfl, .inl hw, _, _, _, _, _, _, _, _, _, _, rfl⟩
  obtain ⟨y1, y2, y3, y4, y5, y6, y7, y8, y9, y10, rfl⟩ := h4
  simp only [runD, rho0, sSeq, List.length_cons, List.length_nil, List.map_cons, List.map_nil, List.replicate_succ, List.replicate_zero, List.cons_append, List.nil_append, List.append_nil, List.getElem?_cons_zero, List.getElem?_cons_succ, List.set_cons_zero, List.set_cons_succ, ↓reduceIte, if_true, if_false, Nat.reduceAdd, Nat.reduceSub, Nat.reduceMul, Nat.reduceLeDiff, Nat.reduceEqDiff, Nat.zero_add, Nat.add_zero, vD, vI, vB, vS, vT, m_law]
  rw [h3]
  have r1 := read_shows LK (by decide) [83] (by decide) (.mk .S) (by decide)
  have r2 := wrong_shows LK (by decide) [] (by decide) 0
  have r3 := wrong_shows LK (by decide) [83] (by decide) (-1)
  have k2 : 2 ≤ LK := by decide
  have sS : ("S" : Str) = sOf [83] := by decide +kernel
  have s0 : ("" : Str) = sOf [] := by decide +kernel
  rw [show decide (wrong [83] < 0 ∧ (Tm.mk Mkr.S).row = true ∧ (Tm.mk Mkr.S).tx = [83]) = true by decide] at r1
  rw [show decide (0 ≤ (0 : Int) ∧ 0 = wrong []) = true by decide] at r2
  rw [show decide (0 ≤ (-1 : Int) ∧ -1 = wrong [83]) = false by decide] at r3
  simp only [Tm.d, Mkr.s] at r1
  rw [sS] at r1
  simp only [runD, rho0, sSeq, sIf, sRet, sRetL, sRetO, sAsg, sAsgL, sAsgO, sAug, sPar, sNil, sNever, sBreak, sCont, cVar, rd, cD, cOp1, cOp2, cT, wB, qAnd, qOr, qNot, cAnd, cOr, cNot, cIf, aNil, aCons, wDs, cTup, lLst, cL, wII, wIC, wAdd, wLen, wIsi, isTup, isStr, isInt, isBool, isLst, cCall, lCall, Res.val, W.im, imm, imms, noOwn, wIx_t0, wIx_t1, wEq_int, wNe_int, List.length_cons, List.length_nil, List.map_cons, List.map_nil, List.replicate_succ, List.replicate_zero, List.cons_append, List.nil_append, List.append_nil, List.getElem?_cons_zero, List.getElem?_cons_succ, List.set_cons_zero, List.set_cons_succ, List.all_cons, List.all_nil, ↓reduceIte, Bool.or_true, Bool.true_or, Bool.or_false, Bool.false_or, Bool.and_true, Bool.true_and, Bool.and_false, Bool.false_and, Bool.not_true, Bool.not_false, if_true, if_false, Bool.false_eq_true, Nat.zero_add, Nat.add_zero, Nat.reduceAdd, Nat.reduceSub, Nat.reduceMul, Nat.reduceLeDiff, Nat.reduceEqDiff, Int.reduceAdd, Int.reduceSub, Int.reduceNeg, Int.reduceMul, Int.reduceLT, Int.reduceLE, Int.reduceEq, decide_true, decide_false, and_self, true_and, and_true, and_false, false_and, or_true, true_or, or_false, false_or, not_true_eq_false, not_false_eq_true, imm_d, cAtt_eq, cMake_eq, cMeth, vD, vI, vB, vS, vT, wAtt_Read_row, wMake_Read, wAtt_Wrong_place, wMake_Wrong, sS, s0, k2, r1, r2, r3, wNeg, wIsB]
  rfl

end R
open PySem PySem.W PyProof.Rows
set_option maxHeartbeats 0 in
theorem PySem.Challenge.cw_namesout_k16_texts_by_hand_holds : PySem.Challenge.rw_namesout_k16_texts_by_hand.Holds := by
  w_on; o_law; k_head; (case hw => w_witness2)
  k_fill
  refine L2.walk_ofB (l := PySem.Challenge.rw_namesout_k16_texts_by_hand) (n := 63) (k := R.LK + 1) (x := "_law_script") (CX := fun _ => L2.CX0) (sp := fun w => Nm.spLaw _) rfl (by decide) rfl ⟨rfl, by decide, by decide⟩ (fun w h Y => PySem.W.kIn_of Y) ?F (fun _ _ a ns hl hb _ hS => ⟨a, ns, rfl, hS, hl, hb, fun _ => rfl⟩) (fun _ _ _ _ _ h => h)
  case F =>
    intro w mg fa h KX G hmg
    refine' R.the_law KX G hmg ?u_g0 ?u_z0 ?u_z1 ?u_z2 ?u_z3 ?u_z4 ?u_z5 ?u_z6 ?u_z7 ?u_z8 ?u_A0 ?u_A1 ?u_I1 ?u_A2 ?u_I2 ?u_d0 ?u_d1 ?u_d2 ?u_d3 ?u_d4 ?u_d5 ?u_d6 ?u_d7 ?u_d8 ?u_d9 ?u_d10 ?u_d11 ?u_d12 R.main
    (case u_g0 => k_is)
    (case u_z0 => k_is)
    (case u_z1 => k_is)
    (case u_z2 => k_is)
    (case u_z3 => k_is)
    (case u_z4 => k_is)
    (case u_z5 => k_is)
    (case u_z6 => k_is)
    (case u_z7 => k_is)
    (case u_z8 => k_is)
    (case u_A0 => refine' Nm.clsAt_mk ?v_aC ?v_pg ?v_hd ?v_po ?v_sa ?v_ha ?v_hn ?v_ht ?v_hm (Nm.na_none); (case v_aC => k_is); (case v_pg => k_is); (case v_hd => k_is); (case v_po => k_is); (case v_sa => k_is); (case v_ha => k_is); (case v_hn => k_is); (case v_ht => k_is); (case v_hm => k_is))
    (case u_A1 => refine' Nm.clsAt_mk ?v_aC ?v_pg ?v_hd ?v_po ?v_sa ?v_ha ?v_hn ?v_ht ?v_hm (Nm.na_one ?v_na1); (case v_aC => k_is); (case v_pg => k_is); (case v_hd => k_is); (case v_po => k_is); (case v_sa => k_is); (case v_ha => k_is); (case v_hn => k_is); (case v_ht => k_is); (case v_hm => k_is); (case v_na1 => k_is))
    (case u_I1 => refine' Nm.iniAt_mk R.b_Read__init_ ?v_mk ?v_a ?v_i ?v_kc ?v_l ?v_c ?v_k; (case v_mk => k_is); (case v_a => k_is); (case v_i => k_is); (case v_kc => k_is); (case v_l => k_is); (case v_c => k_is); (case v_k => k_is))
    (case u_A2 => refine' Nm.clsAt_mk ?v_aC ?v_pg ?v_hd ?v_po ?v_sa ?v_ha ?v_hn ?v_ht ?v_hm (Nm.na_one ?v_na1); (case v_aC => k_is); (case v_pg => k_is); (case v_hd => k_is); (case v_po => k_is); (case v_sa => k_is); (case v_ha => k_is); (case v_hn => k_is); (case v_ht => k_is); (case v_hm => k_is); (case v_na1 => k_is))
    (case u_I2 => refine' Nm.iniAt_mk R.b_Wrong__init_ ?v_mk ?v_a ?v_i ?v_kc ?v_l ?v_c ?v_k; (case v_mk => k_is); (case v_a => k_is); (case v_i => k_is); (case v_kc => k_is); (case v_l => k_is); (case v_c => k_is); (case v_k => k_is))
    (case u_d0 => refine' Nm.defAt_mk R.b_is_maker ?v_a ?v_l ?v_c ?v_k; (case v_a => k_is); (case v_l => k_is); (case v_c => k_is); (case v_k => k_is))
    (case u_d1 => refine' Nm.defAt_mk R.b_wrong_of ?v_a ?v_l ?v_c ?v_k; (case v_a => k_is); (case v_l => k_is); (case v_c => k_is); (case v_k => k_is))
    (case u_d2 => refine' Nm.defAt_mk R.b_row_of ?v_a ?v_l ?v_c ?v_k; (case v_a => k_is); (case v_l => k_is); (case v_c => k_is); (case v_k => k_is))
    (case u_d3 => refine' Nm.defAt_mk R.b_law_cell_at ?v_a ?v_l ?v_c ?v_k; (case v_a => k_is); (case v_l => k_is); (case v_c => k_is); (case v_k => k_is))
    (case u_d4 => refine' Nm.defAt_mk R.b_law_draw ?v_a ?v_l ?v_c ?v_k; (case v_a => k_is); (case v_l => k_is); (case v_c => k_is); (case v_k => k_is))
    (case u_d5 => refine' Nm.defAt_mk R.b_law_number ?v_a ?v_l ?v_c ?v_k; (case v_a => k_is); (case v_l => k_is); (case v_c => k_is); (case v_k => k_is))
    (case u_d6 => refine' Nm.defAt_mk R.b_law_term ?v_a ?v_l ?v_c ?v_k; (case v_a => k_is); (case v_l => k_is); (case v_c => k_is); (case v_k => k_is))
    (case u_d7 => refine' Nm.defAt_mk R.b_law_text ?v_a ?v_l ?v_c ?v_k; (case v_a => k_is); (case v_l => k_is); (case v_c => k_is); (case v_k => k_is))
    (case u_d8 => refine' Nm.defAt_mk R.b_law_says ?v_a ?v_l ?v_c ?v_k; (case v_a => k_is); (case v_l => k_is); (case v_c => k_is); (case v_k => k_is))
    (case u_d9 => refine' Nm.defAt_mk R.b_law_wrong ?v_a ?v_l ?v_c ?v_k; (case v_a => k_is); (case v_l => k_is); (case v_c => k_is); (case v_k => k_is))
    (case u_d10 => refine' Nm.defAt_mk R.b_law ?v_a ?v_l ?v_c ?v_k; (case v_a => k_is); (case v_l => k_is); (case v_c => k_is); (case v_k => k_is))
    (case u_d11 => refine' Nm.metAt_mk R.b_Read_shows ?v_aC ?v_a ?v_i ?v_l ?v_c ?v_k; (case v_aC => k_is); (case v_a => k_is); (case v_i => k_is); (case v_l => k_is); (case v_c => k_is); (case v_k => k_is))
    (case u_d12 => refine' Nm.metAt_mk R.b_Wrong_shows ?v_aC ?v_a ?v_i ?v_l ?v_c ?v_k; (case v_aC => k_is); (case v_a => k_is); (case v_i => k_is); (case v_l => k_is); (case v_c => k_is); (case v_k => k_is))
