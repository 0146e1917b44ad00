import PyProof.Rows.All
import Wide.All
import OpenK.AllK
import Wide.FinOn
import HandS.ForMost
import HandS.EndBits
import HandS.IsInst
import HandS.Wide
import HandS.Style
import HandS.Deep
import HandS.More
import HandS.Exc
import HandS.ExcOwn
import HandS.ExcIs
import HandS.WordsExc
import HandS.Nested
import HandS.HotCalls
import KE.GoesMore
import HandS.TryOnly
import HandS.SortInts
import HandS.SetFor
import HandS.Strs
import PyProof.ReprRoads
import HandS.RaiseMore
import PyProof.Rows.SortShellAny
import PyProof.WalkInts
import HandS.DictComp
import KE.KStateDown
import HandS.Ends
import HandS.Head0
import HandS.Head1
import HandS.Head2
import HandS.HeadEnd
import HandS.HeadHook1
import HandS.HeadHook2
import HandS.HeadHook3
import HandS.EndTab
import HandS.HeadWalk
import HandS.Zip
import HandS.FStrTup
import PySem.Challenge.RW_namesout_k21_whole_anew
set_option Elab.async false
set_option linter.all false
set_option maxRecDepth 100000
set_option maxHeartbeats 1000000
namespace Nm
open PySem PyProof.Rows L2

/-! ### data, with empty dicts -/
mutual
inductive Dp (K : PySem.W.Frag) (H : Hp) : V → PyData → Prop
  | non : Dp K H .non .none
  | bl (b : Bool) : Dp K H (.bl b) (.bool b)
  | int (i : Int) : Dp K H (.int i) (.int i)
  | str (x : Str) : Dp K H (.str x) (.str x)
  | lst {a : Addr} {xs : List V} {ds : List PyData} : SqL K H a xs → DpAll K H xs ds → Dp K H (.ref a) (.list ds)
  | tup {a : Addr} {xs : List V} {ds : List PyData} : SqT K H a xs → DpAll K H xs ds → Dp K H (.ref a) (.tuple ds)
  | dct {a : Addr} : H a = some (.dK []) → Dp K H (.ref a) (.dict [])
inductive DpAll (K : PySem.W.Frag) (H : Hp) : List V → List PyData → Prop
  | nil : DpAll K H [] []
  | cons {v : V} {vs : List V} {d : PyData} {ds : List PyData} : Dp K H v d → DpAll K H vs ds → DpAll K H (v :: vs) (d :: ds)
end
mutual
/-- no dict in it -/
def ndt : PyData → Bool
  | .list ds => ndts ds
  | .tuple ds => ndts ds
  | .dict _ => false
  | _ => true
def ndts : List PyData → Bool
  | [] => true
  | d :: ds => ndt d && ndts ds
end
mutual
theorem Dp.l2 {K : PySem.W.Frag} {H : Hp} : ∀ (d : PyData) (v : V), ndt d = true → Dp K H v d → L2.Dp K H v d
  | .none, _, _, h => by cases h; exact .non
  | .bool b, _, _, h => by cases h; exact .bl b
  | .int i, _, _, h => by cases h; exact .int i
  | .str x, _, _, h => by cases h; exact .str x
  | .list ds, _, n, h => by cases h with | lst hs ha => exact .lst hs (DpAll.l2 ds _ n ha)
  | .tuple ds, _, n, h => by cases h with | tup hs ha => exact .tup hs (DpAll.l2 ds _ n ha)
  | .dict _, _, n, _ => by cases n
theorem DpAll.l2 {K : PySem.W.Frag} {H : Hp} : ∀ (ds : List PyData) (vs : List V), ndts ds = true → DpAll K H vs ds → L2.DpAll K H vs ds
  | [], _, _, h => by cases h; exact .nil
  | d :: ds, _, n, h => by
    have n' : ndt d = true ∧ ndts ds = true := by simpa only [ndts, Bool.and_eq_true] using n
    cases h with
    | cons h1 h2 => exact .cons (Dp.l2 d _ n'.1 h1) (DpAll.l2 ds _ n'.2 h2)
end
mutual
theorem lay_ndt : ∀ d : PyData, d.canLay0 = true → ndt d = true
  | .none, _ => rfl
  | .bool _, _ => rfl
  | .int _, _ => rfl
  | .str _, _ => rfl
  | .list ds, h => lays_ndt ds (by simpa only [PyData.canLay0] using h)
  | .tuple ds, h => lays_ndt ds (by simpa only [PyData.canLay0] using h)
  | .dict _, h => by simp [PyData.canLay0] at h
theorem lays_ndt : ∀ ds : List PyData, PyData.canLayAll0 ds = true → ndts ds = true
  | [], _ => rfl
  | d :: ds, h => by
    have h' : d.canLay0 = true ∧ PyData.canLayAll0 ds = true := by simpa only [PyData.canLayAll0, Bool.and_eq_true] using h
    simp only [ndts, lay_ndt d h'.1, lays_ndt ds h'.2]; rfl
end
theorem Dp.reads {X : Cx} {pins : List (Addr × Obj)} {z : L2.St} {H : Hp} {s : Shared} (I : Inv X pins z H s) (d : PyData) (v : V) (u : Value) (n : ndt d = true) (h : Dp X.K H v d) (r : RelV v u) : ∃ as, Reads s.heap u d as := L2.Dp.reads I d v u (Dp.l2 d v n h) r
/-! ### the heap goes on: all stays, but that tables of code objects grow -/
/-- a table of code objects, each of them tracked -/
def TabA (H : Hp) (P : Addr) : Prop := ∃ ps : Array Value, H P = some (.tbl ps) ∧ TriplesOk ps.toList ∧ ∀ (pos : Pos) (cv : Value), codeAmong pos ps.toList = some cv → ∃ c q, cv = .ref c ∧ H c = some (LamX.CodeO c q)
theorem TabA.ext {H H' : Hp} {P : Addr} (t : TabA H P) (e : ∀ b o, H b = some o → H' b = some o) : TabA H' P := by
  obtain ⟨ps, h1, h2, h3⟩ := t
  refine ⟨ps, e _ _ h1, h2, fun pos cv hc => ?_⟩
  obtain ⟨c, q, e1, e2⟩ := h3 pos cv hc
  exact ⟨c, q, e1, e _ _ e2⟩
theorem TabA.nil {H : Hp} {P : Addr} (h : H P = some (.tbl #[])) : TabA H P := ⟨#[], h, True.intro, fun pos cv hc => by
  have z : codeAmong pos [] = some cv := hc
  simp [codeAmong] at z⟩
structure Same (H H' : Hp) : Prop where
  to : ∀ b o, H b = some o → (∀ ps, o ≠ .tbl ps) → H' b = some o
  no : ∀ b, H' b = none → H b = none
  tb : ∀ P, TabA H P → TabA H' P
theorem Same.of {H H' : Hp} (e : L2.Same H H') : Same H H' := ⟨fun b o h _ => e b o h, fun b h => e.free h, fun P h => h.ext e⟩
theorem Same.refl (H : Hp) : Same H H := ⟨fun _ _ h _ => h, fun _ h => h, fun _ h => h⟩
theorem Same.trans {H H1 H2 : Hp} (a : Same H H1) (b : Same H1 H2) : Same H H2 := ⟨fun c o h n => b.to c o (a.to c o h n) n, fun c h => a.no c (b.no c h), fun P h => b.tb P (a.tb P h)⟩
theorem Same.free {H H' : Hp} (e : Same H H') {l : Addr} (h : H' l = Option.none) : H l = Option.none := e.no l h
theorem Same.at {H H' : Hp} (e : Same H H') {b : Addr} {o : HO} (h : H b = some o) (n : ∀ ps, o ≠ .tbl ps := by intro _ z; cases z) : H' b = some o := e.to b o h n
theorem Same.seq {K : PySem.W.Frag} {H H' : Hp} {a : Addr} {xs : List V} (e : Same H H') (h : SqL K H a xs) : SqL K H' a xs := by
  rcases h with (h | ⟨o, h⟩) | h
  · exact .inl (.inl (e.at h))
  · exact .inl (.inr ⟨o, e.at h⟩)
  · exact .inr h
/-! ### data under a heap -/
mutual
theorem dp_mono {K : PySem.W.Frag} {H H' : Hp} (s : Same H H') : ∀ (d : PyData) (v : V), Dp K H v d → Dp K H' v d
  | .none, _, h => by cases h; exact .non
  | .bool b, _, h => by cases h; exact .bl b
  | .int i, _, h => by cases h; exact .int i
  | .str x, _, h => by cases h; exact .str x
  | .list ds, _, h => by
    cases h with
    | lst hs ha => exact .lst (s.seq hs) (dpa_mono s ds _ ha)
  | .tuple ds, _, h => by
    cases h with
    | tup hs ha =>
      refine .tup ?_ (dpa_mono s ds _ ha)
      rcases hs with (h | ⟨o, h⟩) | h
      · exact .inl (.inl (s.at h))
      · exact .inl (.inr ⟨o, s.at h⟩)
      · exact .inr h
  | .dict _, _, h => by
    cases h with
    | dct h => exact .dct (s.at h)
theorem dpa_mono {K : PySem.W.Frag} {H H' : Hp} (s : Same H H') : ∀ (ds : List PyData) (vs : List V), DpAll K H vs ds → DpAll K H' vs ds
  | [], _, h => by cases h; exact .nil
  | d :: ds, _, h => by
    cases h with
    | cons h1 h2 => exact .cons (dp_mono s d _ h1) (dpa_mono s ds _ h2)
end
mutual
/-- no list, no dict in it -/
def imm : PyData → Bool
  | .none => true
  | .bool _ => true
  | .int _ => true
  | .str _ => true
  | .list _ => false
  | .tuple ds => imms ds
  | .dict _ => false
def imms : List PyData → Bool
  | [] => true
  | d :: ds => imm d && imms ds
end
/-- the tuples are kept -/
def TSame (H H' : Hp) : Prop := ∀ a xs, Rd H a (.tup xs) → Rd H' a (.tup xs)
mutual
theorem dp_tmono {K : PySem.W.Frag} {H H' : Hp} (s : TSame H H') : ∀ (d : PyData) (v : V), imm d = true → Dp K H v d → Dp K H' v d
  | .none, _, _, h => by cases h; exact .non
  | .bool b, _, _, h => by cases h; exact .bl b
  | .int i, _, _, h => by cases h; exact .int i
  | .str x, _, _, h => by cases h; exact .str x
  | .list ds, _, i, h => by simp [imm] at i
  | .tuple ds, _, i, h => by
    cases h with
    | tup hs ha =>
      refine .tup ?_ (dpa_tmono s ds _ (by simpa [imm] using i) ha)
      rcases hs with h | h
      · exact .inl (s _ _ h)
      · exact .inr h
  | .dict _, _, i, _ => by cases i
theorem dpa_tmono {K : PySem.W.Frag} {H H' : Hp} (s : TSame H H') : ∀ (ds : List PyData) (vs : List V), imms ds = true → DpAll K H vs ds → DpAll K H' vs ds
  | [], _, _, h => by cases h; exact .nil
  | d :: ds, _, i, h => by
    have i' : imm d = true ∧ imms ds = true := by simpa [imms] using i
    cases h with
    | cons h1 h2 => exact .cons (dp_tmono s d _ i'.1 h1) (dpa_tmono s ds _ i'.2 h2)
end
theorem dpa_len {K : PySem.W.Frag} {H : Hp} : ∀ (ds : List PyData) (vs : List V), DpAll K H vs ds → vs.length = ds.length
  | [], _, h => by cases h; rfl
  | d :: ds, _, h => by
    cases h with
    | cons h1 h2 => simp [dpa_len ds _ h2]
theorem dpa_get {K : PySem.W.Frag} {H : Hp} : ∀ (ds : List PyData) (vs : List V) (i : Nat) (d : PyData), DpAll K H vs ds → ds[i]? = some d → ∃ v, vs[i]? = some v ∧ Dp K H v d
  | [], _, i, d, h, e => by simp at e
  | x :: ds, _, 0, d, h, e => by
    cases h with
    | cons h1 h2 => simp at e; subst e; exact ⟨_, rfl, h1⟩
  | x :: ds, _, i + 1, d, h, e => by
    cases h with
    | cons h1 h2 =>
      obtain ⟨v, h3, h4⟩ := dpa_get ds _ i d h2 (by simpa using e)
      exact ⟨v, by simpa using h3, h4⟩
theorem dpa_getV {K : PySem.W.Frag} {H : Hp} : ∀ (ds : List PyData) (vs : List V) (i : Nat) (v : V), DpAll K H vs ds → vs[i]? = some v → ∃ d, ds[i]? = some d ∧ Dp K H v d
  | [], _, i, v, h, e => by cases h; simp at e
  | x :: ds, _, 0, v, h, e => by
    cases h with
    | cons h1 h2 => simp at e; subst e; exact ⟨_, rfl, h1⟩
  | x :: ds, _, i + 1, v, h, e => by
    cases h with
    | cons h1 h2 =>
      obtain ⟨d, h3, h4⟩ := dpa_getV ds _ i v h2 (by simpa using e)
      exact ⟨d, by simpa using h3, h4⟩
theorem dpa_app {K : PySem.W.Frag} {H : Hp} : ∀ (ds es : List PyData) (vs ws : List V), DpAll K H vs ds → DpAll K H ws es → DpAll K H (vs ++ ws) (ds ++ es)
  | [], es, _, ws, h, g => by cases h; exact g
  | d :: ds, es, _, ws, h, g => by
    cases h with
    | cons h1 h2 => exact .cons h1 (dpa_app ds es _ ws h2 g)
theorem imms_app (xs ys : List PyData) : imms (xs ++ ys) = (imms xs && imms ys) := by
  induction xs with
  | nil => simp [imms]
  | cons x r ih => simp [imms, ih, Bool.and_assoc]
theorem imms_mem {xs : List PyData} : imms xs = true ↔ ∀ x ∈ xs, imm x = true := by
  induction xs with
  | nil => simp [imms]
  | cons x r ih => simp [imms, ih]

/-! ### what is handed about -/
/-- a function: a def of the module, a lambda -/
inductive Fn where
  | g (i : Nat)
  | l (i : Nat)
  deriving DecidableEq
/-- the words of a lambda: its maker's prefix, its parameters, body, names -/
structure LamD where
  qual : Str
  params : Arguments
  body : Expr
  scope : Scope
inductive W where
  | d (x : PyData)
  /-- an instance of class c, its fields' data in the class's order -/
  | o (c : Nat) (fs : List PyData)
  /-- a dict whose keys are texts -/
  | m (kvs : List (Str × PyData))
  /-- a function; a list of functions -/
  | fn (n : Fn)
  | fns (ns : List Fn)
def W.im : W → Bool
  | .d x => imm x
  | .o _ fs => imms fs
  | .m _ => false
  | .fn _ => true
  | .fns _ => false
/-- what a call gives: a value, or a new list -/
inductive Res where
  | w (x : W)
  | fl (xs : List PyData)
  /-- a number; the list that was handed second is xs from now on -/
  | pc (xs : List PyData) (n : Nat)
  /-- an exception of the class numbered n -/
  | ex (n : Nat)
def Res.val : Res → Option W
  | .w x => some x
  | .fl xs => some (.d (.list xs))
  | _ => none
abbrev Fs := Nat → List W → Option Res
/-- the static table of a row: defs by number, their parameters; classes by number, their fields; constants of the module; built-in names that are as they were -/
structure Tab where
  fn : Nat → Str
  ps : Nat → List Str
  cn : Nat → Str
  cf : Nat → List Str
  gl : Str → Option V
  bl : List Str
  /-- a def that is a method: its class, its name there -/
  mo : Nat → Option (Nat × Str) := fun _ => none
  /-- how many classes -/
  nc : Nat := 0
  /-- is an instance of the one an instance of the other, too -/
  sub : Nat → Nat → Bool := fun _ _ => false
  /-- classes that are asked for -/
  ts : List Nat := []
  /-- classes that are made of nothing -/
  mk0 : Nat → Bool := fun _ => false
  /-- tuples of the module -/
  gd : Str → Option PyData := fun _ => none
  /-- dicts of the module -/
  gk : Str → Option (List (Str × PyData)) := fun _ => none
  /-- exceptions' classes -/
  ne : Nat := 0
  en : Nat → Str := fun _ => ""
  es : Nat → Nat → Bool := fun _ _ => false
  /-- lambdas, by numbers that no def has -/
  lm : Nat → Option LamD := fun _ => none
  /-- defs that make lambdas -/
  lk : List Str := []
  /-- defs that are handed about -/
  fg : List Nat := []
  /-- the def that tells of which classes an exception is -/
  kd : Option (Str × (Nat → List Bool)) := none
/-- a dict's entries by their data -/
def KvR (K : PySem.W.Frag) (M : Hp) (kws : List (Key × V)) (kvs : List (Str × PyData)) : Prop := kws.map (·.1) = kvs.map (fun p => (Sum.inr p.1 : Key)) ∧ DpAll K M (kws.map (·.2)) (kvs.map (·.2))
/-- the object at a is a lambda's function -/
def LamO (L : LamD) (a c : Addr) : HO := .ext fun h => ∃ (od : Option Addr) (sl : Array (Option Value)) (pm ctv : Value), h.get? a = some (⟨.type "function", od, .func (PySem.W.kla_fn "<lambda>" L.qual L.params L.body L.scope [] pm (.ref c) ctv), sl⟩ : Obj)
theorem lamO_ne {L : LamD} {a c : Addr} (ps : Array Value) : LamO L a c ≠ .tbl ps := fun z => by
  unfold LamO at z
  cases z
def FnV (T : Tab) (mg : Str → Option Value) (H : Hp) (v : V) : Fn → Prop
  | .g i => T.lm i = none ∧ T.mo i = none ∧ ∃ a, v = .ref a ∧ mg (T.fn i) = some (.ref a)
  | .l i => ∃ L a c, T.lm i = some L ∧ v = .ref a ∧ H a = some (LamO L a c) ∧ ∃ q, H c = some (LamX.CodeO c q)
inductive FnAll (T : Tab) (mg : Str → Option Value) (H : Hp) : List V → List Fn → Prop
  | nil : FnAll T mg H [] []
  | cons {v : V} {vs : List V} {n : Fn} {ns : List Fn} : FnV T mg H v n → FnAll T mg H vs ns → FnAll T mg H (v :: vs) (n :: ns)
def Rw (T : Tab) (K : PySem.W.Frag) (mg : Str → Option Value) (H : Hp) (v : V) : W → Prop
  | .fn n => FnV T mg H v n
  | .fns ns => ∃ a vs, v = .ref a ∧ H a = some (.lst vs) ∧ FnAll T mg H vs ns
  | .d x => Dp K H v x
  | .o c fs => ∃ a C dx vs, v = .ref a ∧ mg (T.cn c) = some (.ref C) ∧ H a = some (.ins C dx ((T.cf c).zip vs)) ∧ vs.length = (T.cf c).length ∧ DpAll K H vs fs
  | .m kvs => ∃ a kws, v = .ref a ∧ H a = some (.dK kws) ∧ KvR K H kws kvs
inductive RwAll (T : Tab) (K : PySem.W.Frag) (mg : Str → Option Value) (H : Hp) : List V → List W → Prop
  | nil : RwAll T K mg H [] []
  | cons {v : V} {vs : List V} {w : W} {ws : List W} : Rw T K mg H v w → RwAll T K mg H vs ws → RwAll T K mg H (v :: vs) (w :: ws)
section
variable {T : Tab} {K : PySem.W.Frag} {mg : Str → Option Value} {H H' : Hp}
theorem fnv_mono (s : Same H H') {v : V} : ∀ {n : Fn}, FnV T mg H v n → FnV T mg H' v n
  | .g _, h => h
  | .l _, ⟨L, a, c, e1, e2, e3, q, e4⟩ => ⟨L, a, c, e1, e2, s.at e3 lamO_ne, q, s.at e4 LamX.codeO_ne⟩
theorem fna_mono (s : Same H H') : ∀ {vs : List V} {ns : List Fn}, FnAll T mg H vs ns → FnAll T mg H' vs ns
  | _, _, .nil => .nil
  | _, _, .cons h t => .cons (fnv_mono s h) (fna_mono s t)
theorem rw_mono (s : Same H H') {v : V} : ∀ {w : W}, Rw T K mg H v w → Rw T K mg H' v w
  | .fn n, h => fnv_mono s h
  | .fns ns, ⟨a, vs, e1, e2, e3⟩ => ⟨a, vs, e1, s.at e2, fna_mono s e3⟩
  | .d x, h => dp_mono s x v h
  | .o c fs, ⟨a, C, dx, vs, e1, e2, e3, e4, e5⟩ => ⟨a, C, dx, vs, e1, e2, s.at e3, e4, dpa_mono s fs vs e5⟩
  | .m kvs, ⟨a, kws, e1, e2, e3, e4⟩ => ⟨a, kws, e1, s.at e2, e3, dpa_mono s _ _ e4⟩
theorem rwa_mono (s : Same H H') : ∀ {vs : List V} {ws : List W}, RwAll T K mg H vs ws → RwAll T K mg H' vs ws
  | _, _, .nil => .nil
  | _, _, .cons h t => .cons (rw_mono s h) (rwa_mono s t)
theorem rwa_len : ∀ {vs : List V} {ws : List W}, RwAll T K mg H vs ws → vs.length = ws.length
  | _, _, .nil => rfl
  | _, _, .cons h t => by simp [rwa_len t]
end

/-! ### the environment of data -/
inductive Sl where
  | w (x : W)
  | own (xs : List PyData)
  /-- a dict of its own -/
  | od (kvs : List (Str × PyData))
abbrev Rho := List (Option Sl)
def rd (r : Rho) (i : Nat) : Option W := match r[i]? with
  | some (some (.w x)) => some x
  | some (some (.own xs)) => some (.d (.list xs))
  | some (some (.od kvs)) => some (.m kvs)
  | _ => none
/-- the code object of the def x, its table -/
def codeOf : Obj → Option Addr
  | ⟨_, _, .func fd, _⟩ => match fd.code with
    | .ref c => some c
    | _ => none
  | _ => none
def tableOf : Obj → Option Addr
  | ⟨_, _, .fields us, _⟩ => match us.getD 11 Value.none with
    | .ref P => some P
    | _ => none
  | _ => none
def tabF (K : PySem.W.Frag) (f : Addr) : Option (Addr × Addr) := match K.lookup f with
    | some o => match codeOf o with
      | some c => match K.lookup c with
        | some oc => match tableOf oc with
          | some P => some (c, P)
          | none => none
        | none => none
      | none => none
    | none => none
def tabAt (K : PySem.W.Frag) (mg : Str → Option Value) (x : Str) : Option (Addr × Addr) := match mg x with
  | some (.ref f) => tabF K f
  | _ => none
/-- a maker's code object and its table are told -/
def LwOk (T : Tab) (K : PySem.W.Frag) (mg : Str → Option Value) (qual : Str) (f : Addr) : Prop := qual ∈ T.lk → mg qual = some (.ref f) ∧ (tabAt K mg qual).isSome = true
theorem lw_of {T : Tab} {K : PySem.W.Frag} {mg : Str → Option Value} {x qual : Str} {st : Stmt} {f : Addr} {fd : FuncData} {cdv : Value} (F : Fun K x qual st f fd) (h : LwOk T K mg qual f) (hc : fd.code = cdv) : qual ++ ".<locals>." = qual ++ ".<locals>." ∧ (qual ∈ T.lk → ∃ cd P, cdv = .ref cd ∧ tabAt K mg qual = some (cd, P)) := ⟨rfl, fun hq => by
  obtain ⟨h1, h2⟩ := h hq
  obtain ⟨oc, od, kV, doc, pm, an, cdv', ct, osl, e1, lk, hcd⟩ := F.ex
  obtain ⟨⟨cd, P⟩, h3⟩ := Option.isSome_iff_exists.mp h2
  refine ⟨cd, P, ?_, h3⟩
  unfold tabAt at h3
  rw [h1] at h3
  replace h3 : tabF K f = some (cd, P) := h3
  unfold tabF at h3
  simp only [lk] at h3
  split at h3
  · rename_i c hc'
    unfold codeOf at hc'
    simp only [hc] at hc'
    split at hc'
    · cases hc'
      split at h3
      · split at h3
        · cases h3; rfl
        · cases h3
      · cases h3
    · cases hc'
  · cases h3⟩
theorem fun_okC {P : Program} {w : World} {K : PySem.W.Frag} {mg : Str → Option Value} {base : Heap} {CX : CXT} {x qual : Str} {st : Stmt} {f : Addr} {fd : FuncData} {N ps : List Str} {k : Nat} {sp : Sp} (F : Fun K x qual st f fd) (S : FnScope N ps (defScope st)) (len : ∀ vs H Q E, sp vs H Q E → vs.length = ps.length)
    (hbody : ∀ (cdv : Value) (A : Around) (outer : List Env) (s : Shared) (H : Hp) (vs : List V) (Q : VK) (E : XK), fd.code = cdv → Room k (A.deeper (envOfC qual (defScope st) s.heap.objs.size f cdv)) → sp vs H Q E →
      ∃ t, PSs (cxOf CX P w K mg base N qual (defScope st) f cdv A outer s H E) (defBody st) t ∧ t { nx := fun _ H' => Q .non H', rt := Q } (start N vs) H) : FnOk P w K mg base CX (k + 1) f fd ps sp := by
  obtain ⟨oc, od, kV, doc, pm, an, cdv, ct, osl, rfl, lk, hcd⟩ := F.ex
  exact fn_of lk hcd S len fun A outer s H vs Q E hr hsp => hbody cdv A outer s H vs Q E rfl hr hsp
/-- the makers' tables are told -/
def TbOk (T : Tab) (K : PySem.W.Frag) (mg : Str → Option Value) (H : Hp) : Prop := ∀ x ∈ T.lk, ∀ c P, tabAt K mg x = some (c, P) → TabA H P
theorem tb_mono {T : Tab} {K : PySem.W.Frag} {mg : Str → Option Value} {H H' : Hp} (e : Same H H') (h : TbOk T K mg H) : TbOk T K mg H' := fun x hx c P q => e.tb _ (h x hx c P q)
def RV (T : Tab) (K : PySem.W.Frag) (mg : Str → Option Value) (H : Hp) (s : L2.St) (r : Rho) : Prop := s.length = r.length ∧ (∀ i x, rd r i = some x → ∃ v, s[i]? = some (some v) ∧ Rw T K mg H v x) ∧ TbOk T K mg H
theorem rv_mono {T : Tab} {K : PySem.W.Frag} {mg : Str → Option Value} {H H' : Hp} {s : L2.St} {r : Rho} (e : Same H H') (h : RV T K mg H s r) : RV T K mg H' s r := ⟨h.1, fun i x q => by
  obtain ⟨v, h1, h2⟩ := h.2.1 i x q
  exact ⟨v, h1, rw_mono e h2⟩, tb_mono e h.2.2⟩

/-! ### readings -/
def tD (T : Tab) (X : Cx) (r : Rho) (w : W) : TE := fun s H Q => RV T X.K X.mg H s r ∧ ∀ v H', Same H H' → Rw T X.K X.mg H' v w → Q v H'
def tL (T : Tab) (X : Cx) (r : Rho) (xs : List PyData) : TE := fun s H Q => RV T X.K X.mg H s r ∧ ∀ p vs H', H p = none → Same H H' → H' p = some (.lst vs) → DpAll X.K H' vs xs → Q (.ref p) H'
def tQ (T : Tab) (X : Cx) (r : Rho) (b : Bool) : TT := fun s H Q => RV T X.K X.mg H s r ∧ ∀ H', Same H H' → Q b H'
def tAs (T : Tab) (X : Cx) (r : Rho) (ws : List W) : TA := fun s H Q => RV T X.K X.mg H s r ∧ ∀ vs H', Same H H' → RwAll T X.K X.mg H' vs ws → Q vs H'

section
variable {X : Cx} {e : Expr} {es : List Expr} {st : Stmt} {sts : List Stmt}
theorem pe_imp {t t' : TE} (h : PE X e t) (i : ∀ s H Q, t' s H Q → t s H Q) : PE X e t' := ⟨fun pins s z H Q I q => h.run pins s z H Q I (i z H Q q)⟩
theorem pt_imp {t t' : TT} (h : PT X e t) (i : ∀ s H Q, t' s H Q → t s H Q) : PT X e t' := ⟨fun pins s z H Q I q => h.run pins s z H Q I (i z H Q q)⟩
theorem pw_imp {t t' : TT} (h : PW X e t) (i : ∀ s H Q, t' s H Q → t s H Q) : PW X e t' := ⟨fun wh pins s z H Q I q => h.run wh pins s z H Q I (i z H Q q)⟩
theorem pa_imp {t t' : TA} (h : PA X es t) (i : ∀ s H Q, t' s H Q → t s H Q) : PA X es t' := ⟨fun pos pins s z H Q I q => h.run pos pins s z H Q I (i z H Q q)⟩
theorem ps_imp {t t' : TS} (h : PS X st t) (i : ∀ D s H, t' D s H → t D s H) : PS X st t' := ⟨fun pins s z H D I q => h.run pins s z H D I (i D z H q)⟩
theorem pss_imp {t t' : TS} (h : PSs X sts t) (i : ∀ D s H, t' D s H → t D s H) : PSs X sts t' := ⟨fun pins s z H D I q => h.run pins s z H D I (i D z H q)⟩
theorem pe_never : PE X e (fun _ _ _ => False) := ⟨fun _ _ _ _ _ _ h => h.elim⟩
theorem pt_never : PT X e (fun _ _ _ => False) := ⟨fun _ _ _ _ _ _ h => h.elim⟩
end

/-! ### what is known around -/
/-- the same, but what is at a -/
structure Ext (a : Addr) (H H' : Hp) : Prop where
  to : ∀ b o, b ≠ a → H b = some o → (∀ ps, o ≠ .tbl ps) → H' b = some o
  no : ∀ b, b ≠ a → H' b = none → H b = none
  tb : ∀ P, TabA H P → TabA H' P
theorem tb_ext {T : Tab} {K : PySem.W.Frag} {mg : Str → Option Value} {a : Addr} {H H' : Hp} (e : Ext a H H') (h : TbOk T K mg H) : TbOk T K mg H' := fun x hx c P q => e.tb _ (h x hx c P q)
def spR (T : Tab) (K : PySem.W.Frag) (mg : Str → Option Value) (args : List W) (r : Res) : Sp := fun vs H Q E => RwAll T K mg H vs args ∧ TbOk T K mg H ∧ match r with
  | .w x => ∀ v H', Same H H' → Rw T K mg H' v x → Q v H'
  | .fl xs => ∀ p vs' H', H p = none → Same H H' → H' p = some (.lst vs') → DpAll K H' vs' xs → Q (.ref p) H'
  | .pc ys n => ∃ v a us d xs, args = [.d d, .d (.list xs)] ∧ vs = [v, .ref a] ∧ H a = some (.lst us) ∧ Dp K H v d ∧ DpAll K H us xs ∧ ∀ H' us', Ext a H H' → H' a = some (.lst us') → DpAll K H' us' ys → Q (.int n) H'
  | .ex n => ∀ C H', mg (T.en n) = some (.ref C) → Same H H' → E (.ref C) none H'
abbrev veT : List Value := [.type "ValueError", .type "Exception", .type "BaseException", .type "object"]
/-- may it raise -/
def cxr (P : Program) (w : World) : Res → CXT
  | .ex _ => L2.CX P w
  | _ => CX0
/-- the def number i keeps what F says, by k levels -/
structure Calb (T : Tab) (P : Program) (w : World) (K : PySem.W.Frag) (mg : Str → Option Value) (base : Heap) (k : Nat) (i : Nat) (args : List W) (r : Res) : Prop where
  ex : T.lm i = none → ∃ f fd, Binds K fd (T.ps i) [] ∧ FnOk P w K mg base (cxr P w r) k f fd (T.ps i) (spR T K mg args r) ∧
    (T.mo i = none → mg (T.fn i) = some (.ref f) ∧ PySem.W.keepIn K (.ref f) = true) ∧
    ∀ cid m, T.mo i = some (cid, m) → ∃ C, mg (T.cn cid) = some (.ref C) ∧ Meth K C m f
  lm : ∀ L, T.lm i = some L → ∀ (a c : Addr) (cq : Str) (A : Around) (outer : List Env) (s : Shared) (H : Hp) (us : List Value) (vs : List V) (Q : VK) (E : XK), Room k A → Env0 P w K mg base A outer s H → H a = some (LamO L a c) → H c = some (LamX.CodeO c cq) → Vals vs us → spR T K mg args r vs H Q E →
    codeAny (model P w) A (.call (.ref a) ⟨us, []⟩) (CR (cxr P w r) outer P w H s Q E) s
/-- what __init__ does: the fields, in order -/
def spInit (C : Addr) (fs : List Str) : Sp := fun vs H Q _ => ∃ x dx ws, vs = .ref x :: ws ∧ ws.length = fs.length ∧ H x = some (.ins C dx []) ∧ Q .non (upd H x (.ins C dx (fs.zip ws)))
/-- what is asked of an instance's type -/
structure InsTy (K : PySem.W.Frag) (C : Addr) : Prop where
  ha : PySem.W.findIn K (.ref C) "__class__" = some (some (.builtin "object.__class__"))
  hn : PySem.W.specialIn K (.builtin "object.__class__") "__get__" = some (some (.builtin "getset_descriptor.__get__"))
  ht : PySem.W.takesIn K (.builtin "object.__class__") = some true
  hm : PySem.W.mroIn K C (.type "object") = some true
/-- what is asked of a class without __init__ that is made -/
structure Mk0 (K : PySem.W.Frag) (C : Addr) : Prop where
  makes : PySem.W.makesIn K C = true
  init : PySem.W.findIn K (.ref C) "__init__" = some (some (.builtin "object.__init__"))
  kp : PySem.W.keepIn K (.ref C) = true
structure ClOk (T : Tab) (P : Program) (w : World) (K : PySem.W.Frag) (mg : Str → Option Value) (base : Heap) (c : Nat) : Prop where
  ex : ∃ C, mg (T.cn c) = some (.ref C) ∧ Cls K C ∧ (∀ f ∈ T.cf c, NoAttr K C f) ∧ InsTy K C ∧ (∀ n ∈ T.ts, ∀ D, mg (T.cn n) = some (.ref D) → PySem.W.kitOne K (.ref C) (.ref D) = some (T.sub c n)) ∧ (T.mk0 c = true → Mk0 K C) ∧
    (T.cf c ≠ [] → ∃ f fd ps, Mk K C f ∧ Binds K fd ps [] ∧ ps.length = (T.cf c).length + 1 ∧ FnOk P w K mg base CX0 1 f fd ps (spInit C (T.cf c)))
/-- what is asked of an exception's class -/
structure ExC (K : PySem.W.Frag) (C : Addr) : Prop where
  own : PySem.W.excIn K C veT "ValueError.__new__" = true
  kp : PySem.W.keepIn K (.ref C) = true
  sb : PySem.W.subIn K (.ref C) (.type "BaseException") = some true
  ty : PySem.W.typeIn K (.ref C) = some (.type "type")
  ec : ExcC K C
  ve : PySem.W.kitOne K (.ref C) (.type "ValueError") = some true
structure TabOk (T : Tab) (K : PySem.W.Frag) (mg : Str → Option Value) (w : World) : Prop where
  gl : ∀ x v, T.gl x = some v → ∃ u, mg x = some u ∧ RelV v u
  bl : ∀ x ∈ T.bl, mg x = none
  gd : ∀ x d, T.gd x = some d → ∃ v u, mg x = some u ∧ RelV v u ∧ ∀ H, Dp K H v d
  gk : ∀ x kvs, T.gk x = some kvs → ∃ a, mg x = some (.ref a) ∧ ∀ z d, kvs.lookup z = some d → ∃ v, KDct K w a z v ∧ ∀ H, Dp K H v d
  fg : ∀ i ∈ T.fg, T.lm i = none ∧ T.mo i = none ∧ ∃ a, mg (T.fn i) = some (.ref a)
  en : ∀ n, n < T.ne → ∃ C, mg (T.en n) = some (.ref C) ∧ ExC K C ∧ ∀ m, m < T.ne → ∀ D, mg (T.en m) = some (.ref D) → PySem.W.subIn K (.ref C) (.ref D) = some (T.es n m) ∧ PySem.W.kitOne K (.ref C) (.ref D) = some (T.es n m)
/-- the def x tells of which classes the exception is that a suite holds -/
structure KOk (T : Tab) (P : Program) (w : World) (K : PySem.W.Frag) (mg : Str → Option Value) (base : Heap) (x : Str) (bs : Nat → List Bool) : Prop where
  ex : ∃ (f : Addr) (fd : FuncData) (y : Str), mg x = some (.ref f) ∧ PySem.W.keepIn K (.ref f) = true ∧ Binds K fd [y] [] ∧
    ∀ (A : Around) (outer : List Env) (s : Shared) (H : Hp) (p : Addr × Obj) (m : Nat) (C : Addr) (args : Args) (Q : VK), L2H.RoomH 1 A → L2H.PinOk outer H s p → m < T.ne → mg (T.en m) = some (.ref C) → Zc (.ref C) none p.2 → (∃ vs, p.2.data = .fields vs) → Env0 P w K mg base A outer s H →
      BindsTo s fd args ([y].zip [.ref p.1]) → (∀ q H', H q = none → Same H H' → H' q = some (.lst ((bs m).map V.bl)) → Q (.ref q) H') → codeAny (model P w) A (.call (.ref f) args) (CR CX0 outer P w H s Q E0) s
/-- the classes; the makers' code objects -/
structure CloAll (T : Tab) (P : Program) (w : World) (K : PySem.W.Frag) (mg : Str → Option Value) (base : Heap) : Prop where
  cl : ∀ i, i < T.nc → ClOk T P w K mg base i
  tb : ∀ x ∈ T.lk, ∀ c P, tabAt K mg x = some (c, P) → LamX.TabB base mg c P
  kd : ∀ x bs, T.kd = some (x, bs) → KOk T P w K mg base x bs
structure C0 where
  T : Tab
  N : List Str
  F : Fs
  k : Nat
  sc : Scope
  /-- a def's own body -/
  fa : Bool
  /-- no repr is under way -/
  ga : Bool
  /-- its qualified name -/
  qn : Str
structure Gd (c : C0) (X : Cx) : Prop where
  hN : X.N = c.N
  hsc : X.env.scope = c.sc
  calm : X.calm = true
  room : Room c.k X.A
  nd : c.N.Nodup
  tab : TabOk c.T X.K X.mg X.w
  cal : ∀ i args r, c.F i args = some r → Calb c.T X.prog X.w X.K X.mg X.base c.k i args r
  clo : CloAll c.T X.prog X.w X.K X.mg X.base
  fn : c.fa = true → ∀ x, X.fn x = true
  fk : X.env.scope.kind = .function
  gs : c.ga = true → X.A.guards = some []
  sk : c.fa = true → X.stack = X.env :: X.outer ∧ X.env.frame = some X.env.locals ∧ X.ex = []
  lw : c.fa = true → X.env.qual = c.qn ++ ".<locals>." ∧ (c.qn ∈ c.T.lk → ∃ cd P, X.env.code = .ref cd ∧ tabAt X.K X.mg c.qn = some (cd, P))
theorem Gd.kind {c : C0} {X : Cx} (g : Gd c X) (x : Str) : X.env.kindOf x = c.sc.names.lookup x := by
  show X.env.scope.names.lookup x = _
  rw [g.hsc]
theorem Gd.st {c : C0} {X : Cx} (g : Gd c X) {x : Str} (h : c.fa = true ∨ c.sc.names.lookup x = some .local) : X.fn x = true ∨ X.env.scope.names.lookup x = some .local := h.elim (fun z => .inl (g.fn z x)) fun z => .inr (by rw [g.hsc]; exact z)
def OkE (c : C0) (e : Expr) (f : Rho → Option W) : Prop := ∀ X, Gd c X → ∀ r w, f r = some w → PE X e (tD c.T X r w)
def OkL (c : C0) (e : Expr) (f : Rho → Option (List PyData)) : Prop := ∀ X, Gd c X → ∀ r xs, f r = some xs → PE X e (tL c.T X r xs)
def OkT (c : C0) (e : Expr) (f : Rho → Option Bool) : Prop := ∀ X, Gd c X → ∀ r b, f r = some b → PT X e (tQ c.T X r b)
def OkW (c : C0) (e : Expr) (f : Rho → Option Bool) : Prop := ∀ X, Gd c X → ∀ r b, f r = some b → PW X e (tQ c.T X r b)
def OkA (c : C0) (es : List Expr) (f : Rho → Option (List W)) : Prop := ∀ X, Gd c X → ∀ r ws, f r = some ws → PA X es (tAs c.T X r ws)

/-! ### names and constants -/
def cVar (i : Nat) : Rho → Option W := fun r => rd r i
def cD (d : PyData) : Rho → Option W := fun _ => some (.d d)
abbrev cI (i : Int) : Rho → Option W := cD (.int i)
abbrev cS (x : Str) : Rho → Option W := cD (.str x)
abbrev cB (b : Bool) : Rho → Option W := cD (.bool b)
abbrev cN : Rho → Option W := cD .none
section
variable {c : C0} {pos : Pos}
theorem ok_var {i : Nat} {x : Str} (hN : c.N[i]? = some x) (hv : Vis c.sc x) (hd : (x == ("__debug__" : Str)) = false := by decide) (hcd : (x == ("__classdict__" : Str)) = false := by decide) : OkE c (.Name x pos) (cVar i) := fun X g r w h =>
  pe_imp (pe_var (i := i) (by rw [g.hN]; exact hN) (by rw [g.hsc]; exact hv) hd hcd) fun s H Q q => by
    obtain ⟨v, h1, h2⟩ := q.1.2.1 i w h
    exact ⟨v, h1, q.2 v H (Same.refl H) h2⟩
theorem ok_int {i j} : OkE c (.Constant (.int i) j pos) (cI i) := fun X g r w h => by
  cases h
  exact pe_imp pe_int fun s H Q q => q.2 _ H (Same.refl H) (Dp.int i)
theorem ok_str {x j} : OkE c (.Constant (.str x) j pos) (cS x) := fun X g r w h => by
  cases h
  exact pe_imp pe_str fun s H Q q => q.2 _ H (Same.refl H) (Dp.str x)
theorem ok_bl {b j} : OkE c (.Constant (.bool b) j pos) (cB b) := fun X g r w h => by
  cases h
  exact pe_imp pe_bl fun s H Q q => q.2 _ H (Same.refl H) (Dp.bl b)
theorem ok_non {j} : OkE c (.Constant .none j pos) cN := fun X g r w h => by
  cases h
  exact pe_imp pe_non fun s H Q q => q.2 _ H (Same.refl H) Dp.non
/-- a constant of the module: an int or a text -/
theorem ok_gI {x : Str} {i : Int} (hk : c.sc.names.lookup x = some .globalImplicit) (hg : c.T.gl x = some (.int i)) (hd : (x == ("__debug__" : Str)) = false := by decide) : OkE c (.Name x pos) (cI i) := fun X g r w h => by
  cases h
  obtain ⟨u, h1, h2⟩ := g.tab.gl x _ hg
  exact pe_imp (pe_glob (v := .int i) ((g.kind x).trans hk) h1 h2 hd) fun s H Q q => q.2 _ H (Same.refl H) (Dp.int i)
theorem ok_gS {x : Str} {i : Str} (hk : c.sc.names.lookup x = some .globalImplicit) (hg : c.T.gl x = some (.str i)) (hd : (x == ("__debug__" : Str)) = false := by decide) : OkE c (.Name x pos) (cS i) := fun X g r w h => by
  cases h
  obtain ⟨u, h1, h2⟩ := g.tab.gl x _ hg
  exact pe_imp (pe_glob (v := .str i) ((g.kind x).trans hk) h1 h2 hd) fun s H Q q => q.2 _ H (Same.refl H) (Dp.str i)

/-- a tuple of the module -/
theorem ok_gD {x : Str} {d : PyData} (hk : c.sc.names.lookup x = some .globalImplicit) (hg : c.T.gd x = some d) (hd : (x == ("__debug__" : Str)) = false := by decide) : OkE c (.Name x pos) (cD d) := fun X g r w h => by
  cases h
  obtain ⟨v, u, h1, h2, h3⟩ := g.tab.gd x _ hg
  exact pe_imp (pe_glob (v := v) ((g.kind x).trans hk) h1 h2 hd) fun s H Q q => q.2 _ H (Same.refl H) (h3 H)

/-! ### operators -/
def cOp2 (g : W → W → Option W) (fa fb : Rho → Option W) : Rho → Option W := fun r => match fa r with
  | some x => match fb r with
    | some y => g x y
    | none => none
  | none => none
variable {a b : Expr} {fa fb : Rho → Option W}
theorem cOp2_some {g : W → W → Option W} {r : Rho} {w : W} (h : cOp2 g fa fb r = some w) : ∃ x y, fa r = some x ∧ fb r = some y ∧ g x y = some w := by
  unfold cOp2 at h
  split at h
  · rename_i x e1
    split at h
    · rename_i y e2
      exact ⟨x, y, e1, e2, h⟩
    · cases h
  · cases h
/-- what an operation on values does, as told by g on data -/
def OpOk (c : C0) (g : W → W → Option W) (rr : Cx → R2) : Prop := ∀ X, Gd c X → ∀ H x y v u w (Q : VK), g v u = some w → Rw c.T X.K X.mg H x v → Rw c.T X.K X.mg H y u → (∀ z H', Same H H' → Rw c.T X.K X.mg H' z w → Q z H') → rr X x y H Q
theorem tOp_of {g : W → W → Option W} {rr : Cx → R2} (ho : OpOk c g rr) {X : Cx} (gd : Gd c X) {r : Rho} {x y w : W} (hg : g x y = some w) : ∀ s H Q, tD c.T X r w s H Q → tOp (rr X) (tD c.T X r x) (tD c.T X r y) s H Q := fun s H Q q =>
  ⟨q.1, fun v H1 e1 h1 => ⟨rv_mono e1 q.1, fun u H2 e2 h2 => ho X gd H2 v u x y w Q hg (rw_mono e2 h1) h2 fun z H' e' hz => q.2 z H' (e1.trans (e2.trans e')) hz⟩⟩
theorem ok_op {op : Operator} {g : W → W → Option W} {rr : Cx → R2} (hr : ∀ X, Gd c X → OpR X (binaryOp op) (rr X)) (ho : OpOk c g rr) (ha : OkE c a fa) (hb : OkE c b fb) : OkE c (.BinOp a op b pos) (cOp2 g fa fb) := fun X gd r w h => by
  obtain ⟨x, y, e1, e2, e3⟩ := cOp2_some h
  exact pe_imp (pe_op (hr X gd) (ha X gd r x e1) (hb X gd r y e2)) (tOp_of ho gd e3)
theorem ok_cmp {op : CmpOp} {g : W → W → Option W} {rr : Cx → R2} (hr : ∀ X, Gd c X → OpR X (compareOp op) (rr X)) (ho : OpOk c g rr) (ha : OkE c a fa) (hb : OkE c b fb) (hm : behindInMarks op b = false) : OkE c (.Compare a [op] [b] pos) (cOp2 g fa fb) := fun X gd r w h => by
  obtain ⟨x, y, e1, e2, e3⟩ := cOp2_some h
  exact pe_imp (pe_cmpR (hr X gd) (ha X gd r x e1) (hb X gd r y e2) hm) (tOp_of ho gd e3)
/-- a value that is a bool -/
def wB : Option W → Option Bool
  | some (.d (.bool b)) => some b
  | _ => none
def cT (f : Rho → Option W) : Rho → Option Bool := fun r => wB (f r)
theorem cT_some {f : Rho → Option W} {r : Rho} {b : Bool} (h : cT f r = some b) : f r = some (.d (.bool b)) := by
  unfold cT at h
  generalize f r = z at h ⊢
  unfold wB at h
  split at h
  · injection h with h; subst h; rfl
  · cases h
theorem okT_cmp {op : CmpOp} {g : W → W → Option W} {rr : Cx → R2} (hr : ∀ X, Gd c X → OpR X (compareOp op) (rr X)) (ho : OpOk c g rr) (ha : OkE c a fa) (hb : OkE c b fb) (hm : behindInMarks op b = false) : OkT c (.Compare a [op] [b] pos) (cT (cOp2 g fa fb)) := fun X gd r k h => by
  obtain ⟨x, y, e1, e2, e3⟩ := cOp2_some (cT_some h)
  refine pt_imp (pt_cmpR (hr X gd) (ha X gd r x e1) (hb X gd r y e2) hm) fun s H Q q => ?_
  refine tOp_of ho gd e3 s H _ ⟨q.1, fun v H' e hv => ?_⟩
  have hv : Dp X.K H' v (.bool k) := hv
  cases hv
  exact ⟨k, rfl, q.2 H' e⟩
theorem okT_val {e : Expr} {f : Rho → Option W} (h : OkE c e f) (he : ∀ (env : Env) (whole : Sem Value), isTrue e env whole = (do let v ← whole; standAt e.pos; holding [v] (truthy v)) := by intro _ _; rfl) : OkT c e (cT f) := fun X gd r k q => by
  refine pt_imp (pt_val (h X gd r _ (cT_some q)) (he X.env)) fun s H Q q => ⟨q.1, fun v H' e hv => ?_⟩
  have hv : Dp X.K H' v (.bool k) := hv
  cases hv
  exact ⟨k, rfl, q.2 H' e⟩
/-! ### and, or, not as tests -/
def qAnd (f g : Rho → Option Bool) : Rho → Option Bool := fun r => match f r with
  | some true => g r
  | some false => some false
  | none => none
def qOr (f g : Rho → Option Bool) : Rho → Option Bool := fun r => match f r with
  | some true => some true
  | some false => g r
  | none => none
def qNot (f : Rho → Option Bool) : Rho → Option Bool := fun r => match f r with
  | some b => some (!b)
  | none => none
variable {f g : Rho → Option Bool} {rest : List Expr}
theorem okW_one_and (ha : OkT c a f) : OkW c (.BoolOp .And [a] pos) f := fun X gd r k q => pw_and1 (ha X gd r k q)
theorem okW_one_or (ha : OkT c a f) : OkW c (.BoolOp .Or [a] pos) f := fun X gd r k q => pw_or1 (ha X gd r k q)
theorem pw_never {X : Cx} {e : Expr} : PW X e (fun _ _ _ => False) := ⟨fun _ _ _ _ _ _ _ h => h.elim⟩
theorem okW_and (ha : OkT c a f) (hb : OkW c (.BoolOp .And (b :: rest) pos) g) : OkW c (.BoolOp .And (a :: b :: rest) pos) (qAnd f g) := fun X gd r k q => by
  unfold qAnd at q
  split at q
  · rename_i e
    refine pw_imp (pw_and (ha X gd r true e) (hb X gd r k q)) fun s H Q h => ⟨h.1, fun H1 e1 => iteT ⟨rv_mono e1 h.1, fun H2 e2 => h.2 H2 (e1.trans e2)⟩⟩
  · rename_i e
    cases q
    exact pw_imp (pw_and (ha X gd r false e) pw_never) fun s H Q h => ⟨h.1, fun H1 e1 => iteF (h.2 H1 e1)⟩
  · cases q
theorem okW_or (ha : OkT c a f) (hb : OkW c (.BoolOp .Or (b :: rest) pos) g) : OkW c (.BoolOp .Or (a :: b :: rest) pos) (qOr f g) := fun X gd r k q => by
  unfold qOr at q
  split at q
  · rename_i e
    cases q
    exact pw_imp (pw_or (ha X gd r true e) pw_never) fun s H Q h => ⟨h.1, fun H1 e1 => iteT (h.2 H1 e1)⟩
  · rename_i e
    refine pw_imp (pw_or (ha X gd r false e) (hb X gd r k q)) fun s H Q h => ⟨h.1, fun H1 e1 => iteF ⟨rv_mono e1 h.1, fun H2 e2 => h.2 H2 (e1.trans e2)⟩⟩
  · cases q
theorem okT_W {e : Expr} (h : OkW c e f) : OkT c e f := fun X gd r k q => (h X gd r k q).pt
theorem okT_not (ha : OkT c a f) : OkT c (.UnaryOp .Not a pos) (qNot f) := fun X gd r k q => by
  unfold qNot at q
  split at q
  · rename_i b e
    cases q
    exact pt_imp (pt_not (ha X gd r b e)) fun s H Q h => ⟨h.1, fun H1 e1 => h.2 H1 e1⟩
  · cases q
/-! ### and, or, not as values -/
def cAnd (f g : Rho → Option W) : Rho → Option W := fun r => match wB (f r) with
  | some true => g r
  | some false => some (.d (.bool false))
  | none => none
def cOr (f g : Rho → Option W) : Rho → Option W := fun r => match wB (f r) with
  | some true => some (.d (.bool true))
  | some false => g r
  | none => none
def cNot (f : Rho → Option W) : Rho → Option W := fun r => match wB (f r) with
  | some b => some (.d (.bool (!b)))
  | none => none
theorem ok_one {op} (ha : OkE c a fa) : OkE c (.BoolOp op [a] pos) fa := fun X gd r k q => pe_one (ha X gd r k q)
theorem bl_of {K : PySem.W.Frag} {H : Hp} {v : V} {b : Bool} (h : Dp K H v (.bool b)) : v = .bl b := by cases h; rfl
theorem ok_and (ha : OkE c a fa) (hb : OkE c (.BoolOp .And (b :: rest) pos) fb) : OkE c (.BoolOp .And (a :: b :: rest) pos) (cAnd fa fb) := fun X gd r k q => by
  unfold cAnd at q
  split at q
  · rename_i e
    refine pe_imp (pe_and (ha X gd r _ (cT_some e)) (hb X gd r k q)) fun s H Q h => ⟨h.1, fun v H1 e1 hv => ⟨true, bl_of hv, iteT ⟨rv_mono e1 h.1, fun u H2 e2 hu => h.2 u H2 (e1.trans e2) hu⟩⟩⟩
  · rename_i e
    cases q
    exact pe_imp (pe_and (ha X gd r _ (cT_some e)) pe_never) fun s H Q h => ⟨h.1, fun v H1 e1 hv => ⟨false, bl_of hv, iteF (h.2 _ H1 e1 (Dp.bl false))⟩⟩
  · cases q
theorem ok_or (ha : OkE c a fa) (hb : OkE c (.BoolOp .Or (b :: rest) pos) fb) : OkE c (.BoolOp .Or (a :: b :: rest) pos) (cOr fa fb) := fun X gd r k q => by
  unfold cOr at q
  split at q
  · rename_i e
    cases q
    exact pe_imp (pe_or (ha X gd r _ (cT_some e)) pe_never) fun s H Q h => ⟨h.1, fun v H1 e1 hv => ⟨true, bl_of hv, iteT (h.2 _ H1 e1 (Dp.bl true))⟩⟩
  · rename_i e
    refine pe_imp (pe_or (ha X gd r _ (cT_some e)) (hb X gd r k q)) fun s H Q h => ⟨h.1, fun v H1 e1 hv => ⟨false, bl_of hv, iteF ⟨rv_mono e1 h.1, fun u H2 e2 hu => h.2 u H2 (e1.trans e2) hu⟩⟩⟩
  · cases q
theorem ok_not (ha : OkE c a fa) : OkE c (.UnaryOp .Not a pos) (cNot fa) := fun X gd r k q => by
  unfold cNot at q
  split at q
  · rename_i b e
    cases q
    exact pe_imp (pe_not (ha X gd r _ (cT_some e))) fun s H Q h => ⟨h.1, fun v H1 e1 hv => ⟨b, bl_of hv, h.2 _ H1 e1 (Dp.bl _)⟩⟩
  · cases q
def cIf (q : Rho → Option Bool) (f g : Rho → Option W) : Rho → Option W := fun r => match q r with
  | some true => f r
  | some false => g r
  | none => none
theorem ok_if {t : Expr} {q : Rho → Option Bool} (ht : OkT c t q) (ha : OkE c a fa) (hb : OkE c b fb) : OkE c (.IfExp t a b pos) (cIf q fa fb) := fun X gd r k h => by
  unfold cIf at h
  split at h
  · rename_i e
    exact pe_imp (pe_ifExp (ht X gd r true e) (ha X gd r k h) pe_never) fun s H Q h => ⟨h.1, fun H1 e1 => iteT ⟨rv_mono e1 h.1, fun u H2 e2 hu => h.2 u H2 (e1.trans e2) hu⟩⟩
  · rename_i e
    exact pe_imp (pe_ifExp (ht X gd r false e) pe_never (hb X gd r k h)) fun s H Q h => ⟨h.1, fun H1 e1 => iteF ⟨rv_mono e1 h.1, fun u H2 e2 hu => h.2 u H2 (e1.trans e2) hu⟩⟩
  · cases h
/-! ### argument lists, tuples, lists -/
def aNil : Rho → Option (List W) := fun _ => some []
def aCons (f : Rho → Option W) (g : Rho → Option (List W)) : Rho → Option (List W) := fun r => match f r with
  | some x => match g r with
    | some xs => some (x :: xs)
    | none => none
  | none => none
theorem okA_nil : OkA c [] aNil := fun X gd r ws h => by
  cases h
  exact pa_imp pa_nil fun s H Q q => q.2 _ H (Same.refl H) .nil
theorem okA_cons {e : Expr} {es : List Expr} {g : Rho → Option (List W)} (ha : OkE c e fa) (hr : OkA c es g) (hs : ∀ env, starEach (e :: es) env = (false, eval e env) :: starEach es env := by intro _; rfl) : OkA c (e :: es) (aCons fa g) := fun X gd r ws h => by
  unfold aCons at h
  split at h
  · rename_i x e1
    split at h
    · rename_i xs e2
      cases h
      exact pa_imp (pa_cons (ha X gd r x e1) (hr X gd r xs e2) (hs X.env)) fun s H Q q => ⟨q.1, fun v H1 e1 hv => ⟨rv_mono e1 q.1, fun vs H2 e2 hvs => q.2 _ H2 (e1.trans e2) (.cons (rw_mono e2 hv) hvs)⟩⟩
    · cases h
  · cases h
/-- data alone -/
def wDs : List W → Option (List PyData)
  | [] => some []
  | .d x :: r => match wDs r with
    | some xs => some (x :: xs)
    | none => none
  | .o _ _ :: _ => none
  | .m _ :: _ => none
  | .fn _ :: _ => none
  | .fns _ :: _ => none
theorem wDs_all {T : Tab} {K : PySem.W.Frag} {mg : Str → Option Value} {H : Hp} : ∀ {ws : List W} {xs : List PyData} {vs : List V}, wDs ws = some xs → RwAll T K mg H vs ws → DpAll K H vs xs
  | [], xs, _, h, .nil => by cases h; exact .nil
  | .d x :: r, xs, _, h, .cons h1 h2 => by
    unfold wDs at h
    split at h
    · rename_i ys e
      cases h
      exact .cons h1 (wDs_all e h2)
    · cases h
  | .o _ _ :: r, xs, _, h, _ => by cases h
  | .m _ :: r, xs, _, h, _ => by cases h
  | .fn _ :: r, xs, _, h, _ => by cases h
  | .fns _ :: r, xs, _, h, _ => by cases h
def cTup (f : Rho → Option (List W)) : Rho → Option W := fun r => match f r with
  | some ws => match wDs ws with
    | some xs => if xs.length ≤ 100000 then some (.d (.tuple xs)) else none
    | none => none
  | none => none
theorem same_new {H : Hp} {p : Addr} (h : H p = none) (o : HO) : Same H (upd H p o) := .of fun b u q => by rw [upd_ne (ne_of_none q h)]; exact q
theorem sz {n : Nat} (h : n ≤ 100000) : n ≤ sizeLine := Nat.le_trans h (by decide)
theorem ok_tup {es : List Expr} {k} {h : Rho → Option (List W)} (he : OkA c es h) : OkE c (.Tuple es k pos) (cTup h) := fun X gd r w q => by
  unfold cTup at q
  split at q
  · rename_i ws e1
    split at q
    · rename_i xs e2
      split at q
      · rename_i hz
        cases q
        refine pe_imp (pe_tup (he X gd r ws e1)) fun s H Q q => ⟨q.1, fun vs H1 s1 hv => ?_⟩
        have hd := wDs_all e2 hv
        refine ⟨by rw [dpa_len _ _ hd]; exact sz hz, fun p hp => q.2 _ _ (s1.trans (same_new hp _)) (Dp.tup (SqT.of upd_same) (dpa_mono (same_new hp _) _ _ hd))⟩
      · cases q
    · cases q
  · cases q
def lLst (f : Rho → Option (List W)) : Rho → Option (List PyData) := fun r => match f r with
  | some ws => match wDs ws with
    | some xs => if xs.length ≤ 100000 then some xs else none
    | none => none
  | none => none
theorem ok_lst {es : List Expr} {h : Rho → Option (List W)} (he : OkA c es h) : OkL c (.List es pos) (lLst h) := fun X gd r w q => by
  unfold lLst at q
  split at q
  · rename_i ws e1
    split at q
    · rename_i xs e2
      split at q
      · rename_i hz
        cases q
        refine pe_imp (pe_lst (he X gd r ws e1)) fun s H Q q => ⟨q.1, fun vs H1 s1 hv => ?_⟩
        have hd := wDs_all e2 hv
        refine ⟨by rw [dpa_len _ _ hd]; exact sz hz, fun p hp => q.2 p vs _ (s1.free hp) (s1.trans (same_new hp _)) upd_same (dpa_mono (same_new hp _) _ _ hd)⟩
      · cases q
    · cases q
  · cases q
/-- a new list as a value -/
def cL (f : Rho → Option (List PyData)) : Rho → Option W := fun r => match f r with
  | some xs => some (.d (.list xs))
  | none => none
theorem ok_L {e : Expr} {h : Rho → Option (List PyData)} (he : OkL c e h) : OkE c e (cL h) := fun X gd r w q => by
  unfold cL at q
  split at q
  · rename_i xs e1
    cases q
    exact pe_imp (he X gd r xs e1) fun s H Q q => ⟨q.1, fun p vs H1 hp s1 h1 hd => q.2 _ H1 s1 (Dp.lst (SqL.of h1) hd)⟩
  · cases q
end
end Nm
namespace Nm
open PySem L2

/-! ### == and != of data -/
def eqOk (k : Nat) : PyData → PyData → Bool
  | .tuple xs, .tuple ys => PyData.canLayAll0 xs && PyData.canLayAll0 ys && decide (min (PyData.depth (.tuple xs)) (PyData.depth (.tuple ys)) ≤ 199 + 16 * k)
  | .list xs, .list ys => PyData.canLayAll0 xs && PyData.canLayAll0 ys && decide (min (PyData.depth (.list xs)) (PyData.depth (.list ys)) ≤ 199 + 16 * k)
  | .dict _, _ => false
  | _, .dict _ => false
  | _, _ => true
/-- the form of a value -/
inductive Sh (h : Heap) : Value → PyData → Prop
  | none : Sh h .none .none
  | bool (b : Bool) : Sh h (.bool b) (.bool b)
  | int (i : Int) (t : Tok) : Sh h (.int i t) (.int i)
  | str (x : Str) (t : Tok) : Sh h (.str x t) (.str x)
  | list {l : Addr} {vs : Array Value} {ds : List PyData} (q : h.IsList l vs) : Sh h (.ref l) (.list ds)
  | tuple {l : Addr} {vs : Array Value} {ds : List PyData} (q : h.IsTuple l vs) : Sh h (.ref l) (.tuple ds)
theorem sh_of {X : Cx} {pins : List (Addr × Obj)} {z : L2.St} {H : Hp} {s : Shared} (I : Inv X pins z H s) {d : PyData} {v : V} {u : Value} (h : Dp X.K H v d) (r : RelV v u) (n : ∀ x, d ≠ .dict x) : Sh s.heap u d := by
  cases h with
  | non => cases r; exact .none
  | bl b => cases r; exact .bool b
  | int i => obtain ⟨t, rfl⟩ := r; exact .int i t
  | str x => obtain ⟨t, rfl⟩ := r; exact .str x t
  | lst hs ha =>
    cases r
    obtain ⟨its, _, pl, _⟩ := I.list hs
    exact .list pl.isList
  | tup hs ha =>
    cases r
    obtain ⟨its, _, pl, _⟩ := I.tuple hs
    obtain ⟨o, e, c, d⟩ := pl
    exact .tuple ⟨o, e, c, d⟩
  | dct h => exact absurd rfl (n _)
/-- ==, by the forms of the two -/
def eqD : PyData → PyData → Bool
  | .none, .none => true
  | .bool a, .bool b => a == b
  | .bool a, .int j => (if a then 1 else 0) == j
  | .int i, .bool b => i == (if b then 1 else 0)
  | .int i, .int j => i == j
  | .str x, .str y => x == y
  | .list xs, .list ys => PyData.eqvAll xs ys
  | .tuple xs, .tuple ys => PyData.eqvAll xs ys
  | _, _ => false
theorem eqD_eqv (d e : PyData) : PyData.eqv d e = eqD d e := by
  cases d <;> cases e <;> simp only [PyData.eqv, eqD]
section
variable {A : Around} {s : Shared} {a b : Value} {as bs : List Addr}
theorem rc_any {k : Nat} {da db : PyData} (ra : Sh s.heap a da) (rb : Sh s.heap b db) (fa : da.canLay0 = true → ∃ as, Reads s.heap a da as) (fb : db.canLay0 = true → ∃ bs, Reads s.heap b db bs) (ok : eqOk k da db = true) (hu : A.units + 200 + 16 * k < cLine) :
    SeqAt.RcAt A s a b (PyData.eqv da db) ∧ SeqAt.RcNeAt A s a b (!PyData.eqv da db) := by
  have h0 : A.units < cLine := by omega
  cases ra with
  | none =>
    cases rb with
    | none => exact ⟨SeqAt.RcAt.none_none, SeqAt.RcNeAt.none_none⟩
    | bool y => exact ⟨SeqAt.RcAt.none_bool y, SeqAt.RcNeAt.none_bool y⟩
    | int y u => exact ⟨SeqAt.RcAt.none_int y u, SeqAt.RcNeAt.none_int y u⟩
    | str y u => exact ⟨SeqAt.RcAt.none_str y u, SeqAt.RcNeAt.none_str y u⟩
    | list q => exact ⟨SeqAt.RcAt.none_list q h0, SeqAt.RcNeAt.none_list q h0⟩
    | tuple q => exact ⟨SeqAt.RcAt.none_tuple q h0, SeqAt.RcNeAt.none_tuple q h0⟩
  | bool x =>
    cases rb with
    | none => exact ⟨SeqAt.RcAt.bool_none x, SeqAt.RcNeAt.bool_none x⟩
    | bool y => exact ⟨SeqAt.RcAt.bool_bool x y, SeqAt.RcNeAt.bool_bool x y⟩
    | int y u => exact ⟨SeqAt.RcAt.bool_int x y u, SeqAt.RcNeAt.bool_int x y u⟩
    | str y u => exact ⟨SeqAt.RcAt.bool_str x y u, SeqAt.RcNeAt.bool_str x y u⟩
    | list q => exact ⟨SeqAt.RcAt.bool_list x q h0, SeqAt.RcNeAt.bool_list x q h0⟩
    | tuple q => exact ⟨SeqAt.RcAt.bool_tuple x q h0, SeqAt.RcNeAt.bool_tuple x q h0⟩
  | int x t =>
    cases rb with
    | none => exact ⟨SeqAt.RcAt.int_none x t, SeqAt.RcNeAt.int_none x t⟩
    | bool y => exact ⟨SeqAt.RcAt.int_bool x t y, SeqAt.RcNeAt.int_bool x t y⟩
    | int y u => exact ⟨SeqAt.RcAt.int_int x t y u, SeqAt.RcNeAt.int_int x t y u⟩
    | str y u => exact ⟨SeqAt.RcAt.int_str x t y u, SeqAt.RcNeAt.int_str x t y u⟩
    | list q => exact ⟨SeqAt.RcAt.int_list x t q h0, SeqAt.RcNeAt.int_list x t q h0⟩
    | tuple q => exact ⟨SeqAt.RcAt.int_tuple x t q h0, SeqAt.RcNeAt.int_tuple x t q h0⟩
  | str x t =>
    cases rb with
    | none => exact ⟨SeqAt.RcAt.str_none x t, SeqAt.RcNeAt.str_none x t⟩
    | bool y => exact ⟨SeqAt.RcAt.str_bool x t y, SeqAt.RcNeAt.str_bool x t y⟩
    | int y u => exact ⟨SeqAt.RcAt.str_int x t y u, SeqAt.RcNeAt.str_int x t y u⟩
    | str y u => exact ⟨SeqAt.RcAt.str_str x t y u, SeqAt.RcNeAt.str_str x t y u⟩
    | list q => exact ⟨SeqAt.RcAt.str_list x t q h0, SeqAt.RcNeAt.str_list x t q h0⟩
    | tuple q => exact ⟨SeqAt.RcAt.str_tuple x t q h0, SeqAt.RcNeAt.str_tuple x t q h0⟩
  | @list l vs xs hl =>
    cases rb with
    | none => exact ⟨SeqAt.RcAt.list_none hl h0, SeqAt.RcNeAt.list_none hl h0⟩
    | bool y => exact ⟨SeqAt.RcAt.list_bool y hl h0, SeqAt.RcNeAt.list_bool y hl h0⟩
    | int y u => exact ⟨SeqAt.RcAt.list_int y u hl h0, SeqAt.RcNeAt.list_int y u hl h0⟩
    | str y u => exact ⟨SeqAt.RcAt.list_str y u hl h0, SeqAt.RcNeAt.list_str y u hl h0⟩
    | tuple q => exact ⟨SeqAt.RcAt.list_tuple hl q h0, SeqAt.RcNeAt.list_tuple hl q h0⟩
    | @list l' vs' ys q =>
      have ok' : (PyData.canLayAll0 xs = true ∧ PyData.canLayAll0 ys = true) ∧ min (PyData.depth (.list xs)) (PyData.depth (.list ys)) ≤ 199 + 16 * k := by simpa [eqOk] using ok
      obtain ⟨as, r1⟩ := fa (by simpa [PyData.canLay0] using ok'.1.1)
      obtain ⟨bs, r2⟩ := fb (by simpa [PyData.canLay0] using ok'.1.2)
      exact ⟨SeqAt.rcAt_reads r1 r2 (by simpa [PyData.canLay0] using ok'.1.1) (by simpa [PyData.canLay0] using ok'.1.2) (by omega),
        SeqAt.rcNeAt_reads r1 r2 (by simpa [PyData.canLay0] using ok'.1.1) (by simpa [PyData.canLay0] using ok'.1.2) (by omega)⟩
  | @tuple l vs xs hl =>
    cases rb with
    | none => exact ⟨SeqAt.RcAt.tuple_none hl h0, SeqAt.RcNeAt.tuple_none hl h0⟩
    | bool y => exact ⟨SeqAt.RcAt.tuple_bool y hl h0, SeqAt.RcNeAt.tuple_bool y hl h0⟩
    | int y u => exact ⟨SeqAt.RcAt.tuple_int y u hl h0, SeqAt.RcNeAt.tuple_int y u hl h0⟩
    | str y u => exact ⟨SeqAt.RcAt.tuple_str y u hl h0, SeqAt.RcNeAt.tuple_str y u hl h0⟩
    | list q => exact ⟨SeqAt.RcAt.tuple_list hl q h0, SeqAt.RcNeAt.tuple_list hl q h0⟩
    | @tuple l' vs' ys q =>
      have ok' : (PyData.canLayAll0 xs = true ∧ PyData.canLayAll0 ys = true) ∧ min (PyData.depth (.tuple xs)) (PyData.depth (.tuple ys)) ≤ 199 + 16 * k := by simpa [eqOk] using ok
      obtain ⟨as, r1⟩ := fa (by simpa [PyData.canLay0] using ok'.1.1)
      obtain ⟨bs, r2⟩ := fb (by simpa [PyData.canLay0] using ok'.1.2)
      exact ⟨SeqAt.rcAt_reads r1 r2 (by simpa [PyData.canLay0] using ok'.1.1) (by simpa [PyData.canLay0] using ok'.1.2) (by omega),
        SeqAt.rcNeAt_reads r1 r2 (by simpa [PyData.canLay0] using ok'.1.1) (by simpa [PyData.canLay0] using ok'.1.2) (by omega)⟩
end
theorem eqOk_nd {k : Nat} {d e : PyData} (ok : eqOk k d e = true) : (∀ x, d ≠ .dict x) ∧ ∀ x, e ≠ .dict x := by
  constructor
  · intro x z; subst z; cases e <;> cases ok
  · intro x z; subst z; cases d <;> cases ok
theorem room200 {k : Nat} {A : Around} (r : Room k A) : A.units + 200 + 16 * k < cLine := by have := r.un; omega
def rEqG (K : PySem.W.Frag) (k : Nat) : R2 := fun x y H Q => ∃ d e, Dp K H x d ∧ Dp K H y e ∧ eqOk k d e = true ∧ Q (.bl (eqD d e)) H
def rNeG (K : PySem.W.Frag) (k : Nat) : R2 := fun x y H Q => ∃ d e, Dp K H x d ∧ Dp K H y e ∧ eqOk k d e = true ∧ Q (.bl (!eqD d e)) H
section
variable {X : Cx}
theorem op_eqG {k : Nat} (hu : X.A.units + 200 + 16 * k < cLine) : OpR X (compareOp .Eq) (rEqG X.K k) := by
  intro pins s z H x y v u Q I rx ry h
  obtain ⟨d, e, hd, he, ok, q⟩ := h
  have nd := eqOk_nd ok
  exact (rc_any (sh_of I hd rx nd.1) (sh_of I he ry nd.2) (fun z => Dp.reads I d x v (lay_ndt d z) hd rx) (fun z => Dp.reads I e y u (lay_ndt e z) he ry) ok hu).1 _ _ _ _ ⟨.bl _, H, I, rfl, by rw [eqD_eqv]; exact q⟩
theorem op_neG {k : Nat} (hu : X.A.units + 200 + 16 * k < cLine) : OpR X (compareOp .NotEq) (rNeG X.K k) := by
  intro pins s z H x y v u Q I rx ry h
  obtain ⟨d, e, hd, he, ok, q⟩ := h
  have nd := eqOk_nd ok
  exact (rc_any (sh_of I hd rx nd.1) (sh_of I he ry nd.2) (fun z => Dp.reads I d x v (lay_ndt d z) hd rx) (fun z => Dp.reads I e y u (lay_ndt e z) he ry) ok hu).2 _ _ _ _ ⟨.bl _, H, I, rfl, by rw [eqD_eqv]; exact q⟩
end
def wEq (k : Nat) : W → W → Option W
  | .d x, .d y => if eqOk k x y then some (.d (.bool (eqD x y))) else none
  | _, _ => none
def wNe (k : Nat) : W → W → Option W
  | .d x, .d y => if eqOk k x y then some (.d (.bool (!eqD x y))) else none
  | _, _ => none
section
variable {c : C0} {pos : Pos} {a b : Expr} {fa fb : Rho → Option W}
theorem oo_eq : OpOk c (wEq c.k) (fun X => rEqG X.K c.k) := fun X g H x y v u w Q h hx hy k => by
  unfold wEq at h
  split at h
  · split at h
    · rename_i ok
      cases h
      exact ⟨_, _, hx, hy, ok, k _ H (Same.refl H) (Dp.bl _)⟩
    · cases h
  · cases h
theorem oo_ne : OpOk c (wNe c.k) (fun X => rNeG X.K c.k) := fun X g H x y v u w Q h hx hy k => by
  unfold wNe at h
  split at h
  · split at h
    · rename_i ok
      cases h
      exact ⟨_, _, hx, hy, ok, k _ H (Same.refl H) (Dp.bl _)⟩
    · cases h
  · cases h
theorem ok_eq (ha : OkE c a fa) (hb : OkE c b fb) : OkE c (.Compare a [.Eq] [b] pos) (cOp2 (wEq c.k) fa fb) := ok_cmp (fun X g => op_eqG (room200 g.room)) oo_eq ha hb (nomark _)
theorem ok_ne (ha : OkE c a fa) (hb : OkE c b fb) : OkE c (.Compare a [.NotEq] [b] pos) (cOp2 (wNe c.k) fa fb) := ok_cmp (fun X g => op_neG (room200 g.room)) oo_ne ha hb (nomark _)
theorem okT_eq (ha : OkE c a fa) (hb : OkE c b fb) : OkT c (.Compare a [.Eq] [b] pos) (cT (cOp2 (wEq c.k) fa fb)) := okT_cmp (fun X g => op_eqG (room200 g.room)) oo_eq ha hb (nomark _)
theorem okT_ne (ha : OkE c a fa) (hb : OkE c b fb) : OkT c (.Compare a [.NotEq] [b] pos) (cT (cOp2 (wNe c.k) fa fb)) := okT_cmp (fun X g => op_neG (room200 g.room)) oo_ne ha hb (nomark _)

/-! ### ints -/
def wII (g : Int → Int → W) : W → W → Option W
  | .d (.int i), .d (.int j) => some (g i j)
  | _, _ => none
abbrev wLt := wII fun i j => .d (.bool (decide (i < j)))
abbrev wLe := wII fun i j => .d (.bool (decide (i ≤ j)))
abbrev wGt := wII fun i j => .d (.bool (decide (j < i)))
abbrev wGe := wII fun i j => .d (.bool (decide (j ≤ i)))
theorem int_of {K : PySem.W.Frag} {H : Hp} {v : V} {i : Int} (h : Dp K H v (.int i)) : v = .int i := by cases h; rfl
theorem str_of {K : PySem.W.Frag} {H : Hp} {v : V} {i : Str} (h : Dp K H v (.str i)) : v = .str i := by cases h; rfl
theorem oo_II {g : Int → Int → V} {gw : Int → Int → PyData} (hg : ∀ K H i j, Dp K H (g i j) (gw i j)) : OpOk c (wII fun i j => .d (gw i j)) (fun _ => rI0 g) := fun X gd H x y v u w Q h hx hy k => by
  unfold wII at h
  split at h
  · rename_i i j
    cases h
    exact ⟨i, j, int_of hx, int_of hy, k _ H (Same.refl H) (hg _ _ _ _)⟩
  · cases h
theorem ok_lt (ha : OkE c a fa) (hb : OkE c b fb) : OkE c (.Compare a [.Lt] [b] pos) (cOp2 wLt fa fb) := ok_cmp (fun X g => op_lt) (oo_II fun _ _ _ _ => Dp.bl _) ha hb (nomark _)
theorem ok_le (ha : OkE c a fa) (hb : OkE c b fb) : OkE c (.Compare a [.LtE] [b] pos) (cOp2 wLe fa fb) := ok_cmp (fun X g => op_le) (oo_II fun _ _ _ _ => Dp.bl _) ha hb (nomark _)
theorem ok_gt (ha : OkE c a fa) (hb : OkE c b fb) : OkE c (.Compare a [.Gt] [b] pos) (cOp2 wGt fa fb) := ok_cmp (fun X g => op_gt) (oo_II fun _ _ _ _ => Dp.bl _) ha hb (nomark _)
theorem ok_ge (ha : OkE c a fa) (hb : OkE c b fb) : OkE c (.Compare a [.GtE] [b] pos) (cOp2 wGe fa fb) := ok_cmp (fun X g => op_ge) (oo_II fun _ _ _ _ => Dp.bl _) ha hb (nomark _)
theorem okT_lt (ha : OkE c a fa) (hb : OkE c b fb) : OkT c (.Compare a [.Lt] [b] pos) (cT (cOp2 wLt fa fb)) := okT_cmp (fun X g => op_lt) (oo_II fun _ _ _ _ => Dp.bl _) ha hb (nomark _)
theorem okT_le (ha : OkE c a fa) (hb : OkE c b fb) : OkT c (.Compare a [.LtE] [b] pos) (cT (cOp2 wLe fa fb)) := okT_cmp (fun X g => op_le) (oo_II fun _ _ _ _ => Dp.bl _) ha hb (nomark _)
theorem okT_gt (ha : OkE c a fa) (hb : OkE c b fb) : OkT c (.Compare a [.Gt] [b] pos) (cT (cOp2 wGt fa fb)) := okT_cmp (fun X g => op_gt) (oo_II fun _ _ _ _ => Dp.bl _) ha hb (nomark _)
theorem okT_ge (ha : OkE c a fa) (hb : OkE c b fb) : OkT c (.Compare a [.GtE] [b] pos) (cT (cOp2 wGe fa fb)) := okT_cmp (fun X g => op_ge) (oo_II fun _ _ _ _ => Dp.bl _) ha hb (nomark _)
/-- i + j, s + t -/
def wAdd : W → W → Option W
  | .d (.int i), .d (.int j) => some (.d (.int (i + j)))
  | .d (.str s), .d (.str t) => if s.length + t.length ≤ 100000 then some (.d (.str (s ++ t))) else none
  | _, _ => none
theorem ok_add (ha : OkE c a fa) (hb : OkE c b fb) : OkE c (.BinOp a .Add b pos) (cOp2 wAdd fa fb) :=
  ok_op (rr := fun _ => _) (fun X g => OpR.or op_add op_add_str) (fun X gd H x y v u w Q h hx hy k => by
    unfold wAdd at h
    split at h
    · rename_i i j
      cases h
      exact .inl ⟨i, j, int_of hx, int_of hy, k _ H (Same.refl H) (Dp.int _)⟩
    · rename_i s t
      split at h
      · rename_i hz
        cases h
        exact .inr ⟨s, t, str_of hx, str_of hy, sz hz, k _ H (Same.refl H) (Dp.str _)⟩
      · cases h
    · cases h) ha hb
abbrev wSub := wII fun i j => .d (.int (i - j))
theorem ok_sub (ha : OkE c a fa) (hb : OkE c b fb) : OkE c (.BinOp a .Sub b pos) (cOp2 wSub fa fb) := ok_op (fun X g => op_sub) (oo_II fun _ _ _ _ => Dp.int _) ha hb
/-- ints, under a condition -/
def wIC (C : Int → Int → Prop) [∀ i j, Decidable (C i j)] (g : Int → Int → Int) : W → W → Option W
  | .d (.int i), .d (.int j) => if C i j then some (.d (.int (g i j))) else none
  | _, _ => none
theorem oo_IC {C : Int → Int → Prop} [∀ i j, Decidable (C i j)] {g : Int → Int → Int} {C' : Int → Int → Prop} (hc : ∀ i j, C i j → C' i j) : OpOk c (wIC C g) (fun _ => rI C' fun i j => .int (g i j)) := fun X gd H x y v u w Q h hx hy k => by
  unfold wIC at h
  split at h
  · rename_i i j
    split at h
    · rename_i hcc
      cases h
      exact ⟨i, j, int_of hx, int_of hy, hc i j hcc, k _ H (Same.refl H) (Dp.int _)⟩
    · cases h
  · cases h
def MulC (i j : Int) : Prop := Builtin.Int.intBits i ≤ 64 ∨ Builtin.Int.intBits j ≤ 64 ∨ Builtin.Int.intBits i + Builtin.Int.intBits j ≤ 4000000
instance (i j : Int) : Decidable (MulC i j) := by unfold MulC; exact inferInstance
theorem mulC_ok {i j : Int} (h : MulC i j) : IntMulOk i j := by
  rcases h with h | h | h
  · exact .of_left h
  · exact .of_right h
  · have e : Builtin.Int.intTooBig (Builtin.Int.intBits i + Builtin.Int.intBits j) = false := by
      unfold Builtin.Int.intTooBig bitsLine
      exact decide_eq_false (by omega)
    unfold IntMulOk
    rw [e]
    simp
abbrev wMul := wIC MulC fun i j => i * j
theorem op_mulG {X : Cx} : OpR X (binaryOp .Mult) (rI IntMulOk fun i j => .int (i * j)) := opI fun _ _ _ _ _ _ _ hc q => PyProof.Rows.mul_int q hc
theorem ok_mul (ha : OkE c a fa) (hb : OkE c b fb) : OkE c (.BinOp a .Mult b pos) (cOp2 wMul fa fb) := ok_op (fun X g => op_mulG) (oo_IC fun _ _ h => mulC_ok h) ha hb
abbrev wDiv := wIC (fun _ j => 0 < j ∧ j < 1073741824) fun i j => i / j
theorem ok_div (ha : OkE c a fa) (hb : OkE c b fb) : OkE c (.BinOp a .FloorDiv b pos) (cOp2 wDiv fa fb) := ok_op (fun X g => op_fdiv) (oo_IC fun _ _ h => h) ha hb
abbrev wMod := wIC (fun _ j => 0 < j) fun i j => i % j
theorem ok_mod (ha : OkE c a fa) (hb : OkE c b fb) : OkE c (.BinOp a .Mod b pos) (cOp2 wMod fa fb) := ok_op (fun X g => op_mod) (oo_IC fun _ _ h => h) ha hb
abbrev wPow := wIC (fun i j => 0 ≤ j ∧ j ≤ 1000000 ∧ i.natAbs < 2 ^ 64) fun i j => i ^ j.toNat
theorem ok_pow (ha : OkE c a fa) (hb : OkE c b fb) : OkE c (.BinOp a .Pow b pos) (cOp2 wPow fa fb) := ok_op (fun X g => op_pow) (oo_IC fun _ _ h => h) ha hb
def wNeg : W → Option W
  | .d (.int i) => some (.d (.int (-i)))
  | _ => none
def cOp1 (g : W → Option W) (f : Rho → Option W) : Rho → Option W := fun r => match f r with
  | some x => g x
  | none => none
theorem cOp1_some {g : W → Option W} {r : Rho} {w : W} (h : cOp1 g fa r = some w) : ∃ x, fa r = some x ∧ g x = some w := by
  unfold cOp1 at h
  split at h
  · rename_i x e1
    exact ⟨x, e1, h⟩
  · cases h
theorem ok_neg (ha : OkE c a fa) : OkE c (.UnaryOp .USub a pos) (cOp1 wNeg fa) := fun X gd r w h => by
  obtain ⟨x, e1, e2⟩ := cOp1_some h
  unfold wNeg at e2
  split at e2
  · rename_i i
    cases e2
    exact pe_imp (pe_un un_neg (ha X gd r _ e1)) fun s H Q q => ⟨q.1, fun v H1 s1 hv => ⟨i, int_of hv, q.2 _ H1 s1 (Dp.int _)⟩⟩
  · cases e2
/-! ### is None, is True, is False -/
def wIsN (neg : Bool) : W → Option W
  | .d x => some (.d (.bool (match x with | .none => !neg | _ => neg)))
  | .o _ _ => some (.d (.bool neg))
  | .m _ => some (.d (.bool neg))
  | .fn _ => some (.d (.bool neg))
  | .fns _ => some (.d (.bool neg))
theorem isN_of {T : Tab} {K : PySem.W.Frag} {mg : Str → Option Value} {H : Hp} {v : V} {w : W} {z : W} (h : Rw T K mg H v w) {neg : Bool} (e : wIsN neg w = some z) : z = .d (.bool (if neg then !decide (v = .non) else decide (v = .non))) := by
  cases w with
  | d x =>
    have h : Dp K H v x := h
    cases h <;> cases neg <;> (simp [wIsN] at e; subst e; simp)
  | o c fs =>
    obtain ⟨a, C, dx, vs, rfl, _⟩ := h
    cases neg <;> (simp [wIsN] at e; subst e; simp)
  | m kvs =>
    obtain ⟨a, kws, rfl, _⟩ := h
    cases neg <;> (simp [wIsN] at e; subst e; simp)
  | fn n =>
    cases n with
    | g i =>
      obtain ⟨_, _, a, rfl, _⟩ := h
      cases neg <;> (simp [wIsN] at e; subst e; simp)
    | l i =>
      obtain ⟨L, a, c, _, rfl, _⟩ := h
      cases neg <;> (simp [wIsN] at e; subst e; simp)
  | fns ns =>
    obtain ⟨a, vs, rfl, _⟩ := h
    cases neg <;> (simp [wIsN] at e; subst e; simp)
theorem ok_isN {j p2} (ha : OkE c a fa) : OkE c (.Compare a [.Is] [.Constant .none j p2] pos) (cOp1 (wIsN false) fa) := fun X gd r w h => by
  obtain ⟨x, e1, e2⟩ := cOp1_some h
  refine pe_imp (pe_cmp (pc_isN (ha X gd r _ e1)) rfl) fun s H Q q => ⟨q.1, fun v H1 s1 hv => ?_⟩
  have e3 := isN_of hv e2
  subst e3
  exact q.2 _ H1 s1 (Dp.bl _)
theorem ok_notN {j p2} (ha : OkE c a fa) : OkE c (.Compare a [.IsNot] [.Constant .none j p2] pos) (cOp1 (wIsN true) fa) := fun X gd r w h => by
  obtain ⟨x, e1, e2⟩ := cOp1_some h
  refine pe_imp (pe_cmp (pc_notN (ha X gd r _ e1)) rfl) fun s H Q q => ⟨q.1, fun v H1 s1 hv => ?_⟩
  have e3 := isN_of hv e2
  subst e3
  exact q.2 _ H1 s1 (Dp.bl _)
/-- a comparison that is a test -/
theorem okT_of1 {op : CmpOp} {t : TE → TE} {g : W → Option W} {e : Expr} (hp : ∀ X, Gd c X → ∀ ta, PE X a ta → PC X op a e (t ta)) (hm : behindInMarks op e = false)
    (ht : ∀ X, Gd c X → ∀ r x w, g x = some w → ∀ s H Q, tD c.T X r w s H Q → t (tD c.T X r x) s H Q) (ha : OkE c a fa) : OkT c (.Compare a [op] [e] pos) (cT (cOp1 g fa)) := fun X gd r k h => by
  obtain ⟨x, e1, e2⟩ := cOp1_some (cT_some h)
  refine pt_imp (pt_cmp (hp X gd _ (ha X gd r _ e1)) hm) fun s H Q q => ?_
  refine ht X gd r x _ e2 s H _ ⟨q.1, fun v H1 s1 hv => ?_⟩
  exact ⟨k, bl_of hv, q.2 H1 s1⟩
theorem okT_isN {j p2} (ha : OkE c a fa) : OkT c (.Compare a [.Is] [.Constant .none j p2] pos) (cT (cOp1 (wIsN false) fa)) :=
  okT_of1 (fun X _ ta h => pc_isN h) rfl (fun X gd r x w e s H Q q => ⟨q.1, fun v H1 s1 hv => by
    have e3 := isN_of hv e
    subst e3
    exact q.2 _ H1 s1 (Dp.bl _)⟩) ha
theorem okT_notN {j p2} (ha : OkE c a fa) : OkT c (.Compare a [.IsNot] [.Constant .none j p2] pos) (cT (cOp1 (wIsN true) fa)) :=
  okT_of1 (fun X _ ta h => pc_notN h) rfl (fun X gd r x w e s H Q q => ⟨q.1, fun v H1 s1 hv => by
    have e3 := isN_of hv e
    subst e3
    exact q.2 _ H1 s1 (Dp.bl _)⟩) ha

/-! ### in, not in -/
def wInS (k : Nat) (neg : Bool) : W → W → Option W
  | .d x, .d y => match y with
    | .str z => match x with
      | .str i => some (.d (.bool (if neg then !(!(Builtin.Str.occurrences z i 0 z.length 1).isEmpty) else !(Builtin.Str.occurrences z i 0 z.length 1).isEmpty)))
      | _ => none
    | .list ds => if PyData.canLay0 x && PyData.canLayAll0 ds && decide (min (PyData.depthAll ds) x.depth ≤ 190 + 16 * k) then some (.d (.bool (if neg then !(ds.any fun y => PyData.eqv y x) else ds.any fun y => PyData.eqv y x))) else none
    | .tuple ds => if PyData.canLay0 x && PyData.canLayAll0 ds && decide (min (PyData.depthAll ds) x.depth ≤ 190 + 16 * k) then some (.d (.bool (if neg then !(ds.any fun y => PyData.eqv y x) else ds.any fun y => PyData.eqv y x))) else none
    | _ => none
  | _, _ => none
def rInG (K : PySem.W.Frag) (k : Nat) (neg : Bool) : R2 := fun x y H Q => (∃ i j, x = .str i ∧ y = .str j ∧ Q (.bl (if neg then !(!(Builtin.Str.occurrences j i 0 j.length 1).isEmpty) else !(Builtin.Str.occurrences j i 0 j.length 1).isEmpty)) H) ∨
  ∃ d ds, Dp K H x d ∧ (Dp K H y (.list ds) ∨ Dp K H y (.tuple ds)) ∧ PyData.canLay0 d = true ∧ PyData.canLayAll0 ds = true ∧ min (PyData.depthAll ds) d.depth ≤ 190 + 16 * k ∧ Q (.bl (if neg then !(ds.any fun z => PyData.eqv z d) else ds.any fun z => PyData.eqv z d)) H
theorem op_inG {X : Cx} {k : Nat} (hu : X.A.units + 200 + 16 * k < cLine) : OpR X (compareOp .In) (rInG X.K k false) := by
  intro pins s z H x y v u Q I rx ry h
  rcases h with ⟨i, j, rfl, rfl, q⟩ | ⟨d, ds, hd, he, sd, se, hm, q⟩
  · exact op_in_str pins s z H _ _ v u Q I rx ry ⟨i, j, rfl, rfl, q⟩
  · obtain ⟨as, r1⟩ := Dp.reads I d x v (lay_ndt d sd) hd rx
    rcases he with he | he
    · obtain ⟨bs, r2⟩ := Dp.reads I (.list ds) y u (lays_ndt ds se) he ry
      exact SeqAt.in_list_reads r2 r1 se sd (by omega) ⟨.bl _, H, I, rfl, q⟩
    · obtain ⟨bs, r2⟩ := Dp.reads I (.tuple ds) y u (lays_ndt ds se) he ry
      exact SeqAt.in_tuple_reads r2 r1 se sd (by omega) ⟨.bl _, H, I, rfl, q⟩
theorem op_notinG {X : Cx} {k : Nat} (hu : X.A.units + 200 + 16 * k < cLine) : OpR X (compareOp .NotIn) (rInG X.K k true) := by
  intro pins s z H x y v u Q I rx ry h
  rcases h with ⟨i, j, rfl, rfl, q⟩ | ⟨d, ds, hd, he, sd, se, hm, q⟩
  · exact op_notin_str pins s z H _ _ v u Q I rx ry ⟨i, j, rfl, rfl, q⟩
  · obtain ⟨as, r1⟩ := Dp.reads I d x v (lay_ndt d sd) hd rx
    rcases he with he | he
    · obtain ⟨bs, r2⟩ := Dp.reads I (.list ds) y u (lays_ndt ds se) he ry
      exact SeqAt.notIn_list_reads r2 r1 se sd (by omega) ⟨.bl _, H, I, rfl, q⟩
    · obtain ⟨bs, r2⟩ := Dp.reads I (.tuple ds) y u (lays_ndt ds se) he ry
      exact SeqAt.notIn_tuple_reads r2 r1 se sd (by omega) ⟨.bl _, H, I, rfl, q⟩
theorem oo_in {neg : Bool} : OpOk c (wInS c.k neg) (fun X => rInG X.K c.k neg) := fun X g H x y v u w Q h hx hy k => by
  cases v with
  | o _ _ => cases h
  | m _ => cases h
  | fn _ => cases h
  | fns _ => cases h
  | d d =>
    cases u with
    | o _ _ => cases h
    | m _ => cases h
    | fn _ => cases h
    | fns _ => cases h
    | d y' =>
      cases y' with
      | str j =>
        cases d with
        | str i =>
          cases h
          exact .inl ⟨i, j, str_of hx, str_of hy, k _ H (Same.refl H) (Dp.bl _)⟩
        | _ => cases h
      | list ds =>
        simp only [wInS] at h
        split at h
        · rename_i hc
          have hc' : (PyData.canLay0 d = true ∧ PyData.canLayAll0 ds = true) ∧ min (PyData.depthAll ds) d.depth ≤ 190 + 16 * c.k := by simpa only [Bool.and_eq_true, decide_eq_true_eq] using hc
          cases h
          exact .inr ⟨d, ds, hx, .inl hy, hc'.1.1, hc'.1.2, hc'.2, k _ H (Same.refl H) (Dp.bl _)⟩
        · cases h
      | tuple ds =>
        simp only [wInS] at h
        split at h
        · rename_i hc
          have hc' : (PyData.canLay0 d = true ∧ PyData.canLayAll0 ds = true) ∧ min (PyData.depthAll ds) d.depth ≤ 190 + 16 * c.k := by simpa only [Bool.and_eq_true, decide_eq_true_eq] using hc
          cases h
          exact .inr ⟨d, ds, hx, .inr hy, hc'.1.1, hc'.1.2, hc'.2, k _ H (Same.refl H) (Dp.bl _)⟩
        · cases h
      | _ => cases h
theorem ok_in (ha : OkE c a fa) (hb : OkE c b fb) (hm : behindInMarks .In b = false := by rfl) : OkE c (.Compare a [.In] [b] pos) (cOp2 (wInS c.k false) fa fb) := ok_cmp (fun X g => op_inG (room200 g.room)) oo_in ha hb hm
theorem ok_notin (ha : OkE c a fa) (hb : OkE c b fb) (hm : behindInMarks .NotIn b = false := by rfl) : OkE c (.Compare a [.NotIn] [b] pos) (cOp2 (wInS c.k true) fa fb) := ok_cmp (fun X g => op_notinG (room200 g.room)) oo_in ha hb hm
theorem okT_in (ha : OkE c a fa) (hb : OkE c b fb) (hm : behindInMarks .In b = false := by rfl) : OkT c (.Compare a [.In] [b] pos) (cT (cOp2 (wInS c.k false) fa fb)) := okT_cmp (fun X g => op_inG (room200 g.room)) oo_in ha hb hm
theorem okT_notin (ha : OkE c a fa) (hb : OkE c b fb) (hm : behindInMarks .NotIn b = false := by rfl) : OkT c (.Compare a [.NotIn] [b] pos) (cT (cOp2 (wInS c.k true) fa fb)) := okT_cmp (fun X g => op_notinG (room200 g.room)) oo_in ha hb hm

/-! ### subscripts -/
def wIx : W → W → Option W
  | .d (.tuple xs), .d (.int i) => match atI xs i with
    | some x => some (.d x)
    | none => none
  | .d (.list xs), .d (.int i) => match atI xs i with
    | some x => some (.d x)
    | none => none
  | .d (.str z), .d (.int i) => if z.length ≤ 100000 then match atI z.cps.toList i with
      | some x => some (.d (.str ⟨#[x]⟩))
      | none => none
    else none
  | _, _ => none
theorem dpa_atI {K : PySem.W.Frag} {H : Hp} {ds : List PyData} {vs : List V} (h : DpAll K H vs ds) {i : Int} {d : PyData} (e : atI ds i = some d) : ∃ v, atI vs i = some v ∧ Dp K H v d := by
  have hl := dpa_len ds vs h
  unfold atI at e ⊢
  rw [hl]
  cases q : ixN ds.length i with
  | none => rw [q] at e; cases e
  | some j =>
    rw [q] at e
    exact dpa_get ds vs j d h e
theorem oo_ix : OpOk c wIx (fun X => rIx X.K) := fun X g H x y v u w Q h hx hy k => by
  unfold wIx at h
  split at h
  · rename_i xs i
    split at h
    · rename_i d e
      cases h
      cases hx with
      | tup hs ha =>
        obtain ⟨v, h1, h2⟩ := dpa_atI ha e
        exact .inr (.inl ⟨_, _, i, v, rfl, int_of hy, hs, h1, k _ H (Same.refl H) h2⟩)
    · cases h
  · rename_i xs i
    split at h
    · rename_i d e
      cases h
      cases hx with
      | lst hs ha =>
        obtain ⟨v, h1, h2⟩ := dpa_atI ha e
        exact .inl ⟨_, _, i, v, rfl, int_of hy, hs, h1, k _ H (Same.refl H) h2⟩
    · cases h
  · rename_i z i
    split at h
    · rename_i hz
      split at h
      · rename_i d e
        cases h
        exact .inr (.inr ⟨z, i, d, str_of hx, int_of hy, sz hz, e, k _ H (Same.refl H) (Dp.str _)⟩)
      · cases h
    · cases h
  · cases h
theorem ok_ix (ha : OkE c a fa) (hb : OkE c b fb) (hs : PlainIx b := by intro _ _; rfl) : OkE c (.Subscript a b pos) (cOp2 wIx fa fb) := fun X gd r w h => by
  obtain ⟨x, y, e1, e2, e3⟩ := cOp2_some h
  exact pe_imp (pe_ix ix_seq (ha X gd r x e1) (hb X gd r y e2) hs) (tOp_of oo_ix gd e3)

/-! ### calls of one's own defs -/
def cCall (F : Fs) (i : Nat) (f : Rho → Option (List W)) : Rho → Option W := fun r => match f r with
  | some ws => match F i ws with
    | some z => z.val
    | none => none
  | none => none
def lCall (F : Fs) (i : Nat) (f : Rho → Option (List W)) : Rho → Option (List PyData) := fun r => match f r with
  | some ws => match F i ws with
    | some (.fl xs) => some xs
    | _ => none
  | none => none
variable {x : Str} {p : Pos} {e : Expr} {es : List Expr} {fs : Rho → Option (List W)} {i : Nat}
theorem ok_call (i : Nat) (hm : c.T.mo i = none) (hx : c.T.fn i = x) (hk : c.sc.names.lookup x = some .globalImplicit) (ha : OkA c (e :: es) fs) (hd : (x == ("__debug__" : Str)) = false := by decide)
    (he : ∀ env, starEach (e :: es) env = (false, eval e env) :: starEach es env := by intro _; rfl) (hpl : ∀ env, (backTo pos (starEach es env)).any (·.1) = false := by intro _; rfl) (hlm : c.T.lm i = none := by rfl) :
    OkE c (.Call (.Name x p) (e :: es) [] pos) (cCall c.F i fs) := fun X gd r w h => by
  unfold cCall at h
  split at h
  · rename_i ws e1
    split at h
    · rename_i z e2
      have key : ∀ z : Res, c.F i ws = some z → cxr X.prog X.w z = CX0 → (∀ (Q : VK) (s : L2.St) (H : Hp), (tD c.T X r w s H Q) → ∀ vs H1, Same H H1 → RwAll c.T X.K X.mg H1 vs ws → spR c.T X.K X.mg ws z vs H1 Q E0) → PE X (.Call (.Name x p) (e :: es) [] pos) (tD c.T X r w) := fun z e2 hz hq => by
        obtain ⟨f, fd, h3, h4, h5, _⟩ := (gd.cal i ws z e2).ex hlm
        obtain ⟨h1, h2⟩ := h5 hm
        rw [hx] at h1
        rw [hz] at h4
        refine pe_imp (pe_call h4 gd.room ((gd.kind x).trans hk) h1 h2 h3 .nil pass0 (ha X gd r ws e1) hd (he _) (hpl _)) fun s H Q q => ⟨q.1, fun vs H1 s1 hv => ?_⟩
        show spR c.T X.K X.mg ws z (vs ++ []) H1 Q E0
        rw [List.append_nil]
        exact hq Q s H q vs H1 s1 hv
      cases z with
      | w x => cases h; exact key _ e2 rfl fun Q s H q vs H1 s1 hv => ⟨hv, tb_mono s1 q.1.2.2, fun v H2 s2 hv2 => q.2 v H2 (s1.trans s2) hv2⟩
      | fl xs => cases h; exact key _ e2 rfl fun Q s H q vs H1 s1 hv => ⟨hv, tb_mono s1 q.1.2.2, fun p vs' H2 hp s2 h2 hd2 => q.2 _ H2 (s1.trans s2) (Dp.lst (SqL.of h2) hd2)⟩
      | pc _ _ => cases h
      | ex _ => cases h
    · cases h
  · cases h
theorem ok_callL (i : Nat) (hm : c.T.mo i = none) (hx : c.T.fn i = x) (hk : c.sc.names.lookup x = some .globalImplicit) (ha : OkA c (e :: es) fs) (hd : (x == ("__debug__" : Str)) = false := by decide)
    (he : ∀ env, starEach (e :: es) env = (false, eval e env) :: starEach es env := by intro _; rfl) (hpl : ∀ env, (backTo pos (starEach es env)).any (·.1) = false := by intro _; rfl) (hlm : c.T.lm i = none := by rfl) :
    OkL c (.Call (.Name x p) (e :: es) [] pos) (lCall c.F i fs) := fun X gd r w h => by
  unfold lCall at h
  split at h
  · rename_i ws e1
    split at h
    · rename_i xs e2
      cases h
      obtain ⟨f, fd, h3, h4, h5, _⟩ := (gd.cal i ws _ e2).ex hlm
      obtain ⟨h1, h2⟩ := h5 hm
      rw [hx] at h1
      refine pe_imp (pe_call h4 gd.room ((gd.kind x).trans hk) h1 h2 h3 .nil pass0 (ha X gd r ws e1) hd (he _) (hpl _)) fun s H Q q => ⟨q.1, fun vs H1 s1 hv => ?_⟩
      show spR c.T X.K X.mg ws (.fl w) (vs ++ []) H1 Q E0
      rw [List.append_nil]
      exact ⟨hv, tb_mono s1 q.1.2.2, fun p vs' H2 hp s2 h2 hd2 => q.2 p vs' H2 (s1.free hp) (s1.trans s2) h2 hd2⟩
    · cases h
  · cases h
/-! ### built-ins: len, isinstance, max, min, abs -/
def wLen : W → Option W
  | .d (.str z) => if z.length ≤ 100000 then some (.d (.int z.length)) else none
  | .d (.list xs) => some (.d (.int xs.length))
  | .d (.tuple xs) => some (.d (.int xs.length))
  | _ => none
theorem okA_one {e : Expr} (h : OkE c e fa) (hs : ∀ env, starEach [e] env = [(false, eval e env)]) : OkA c [e] (aCons fa aNil) := okA_cons h okA_nil hs
theorem ok_len (hb : ("len" : Str) ∈ c.T.bl) (hk : c.sc.names.lookup ("len" : Str) = some .globalImplicit) (ha : OkE c e fa) (hs : ∀ env, starEach [e] env = [(false, eval e env)] := by intro _; rfl) :
    OkE c (.Call (.Name "len" p) [e] [] pos) (cOp1 wLen fa) := fun X gd r w h => by
  obtain ⟨x, e1, e2⟩ := cOp1_some h
  refine pe_imp (pe_callB call_len ((gd.kind _).trans hk) (gd.tab.bl _ hb) PySem.boot_len (pa_cons (ha X gd r x e1) pa_nil (hs X.env)) (he := hs X.env)) fun s H Q q => ⟨q.1, fun v H1 s1 hv => ?_⟩
  unfold wLen at e2
  split at e2
  · rename_i z
    split at e2
    · rename_i hz
      cases e2
      obtain rfl := str_of hv
      exact ⟨_, z.length, rfl, ⟨sz hz, rfl⟩, q.2 _ H1 s1 (Dp.int _)⟩
    · cases e2
  · rename_i xs
    cases e2
    cases hv with
    | lst hs ha => exact ⟨_, xs.length, rfl, .inl ⟨_, hs, (dpa_len _ _ ha).symm⟩, q.2 _ H1 s1 (Dp.int _)⟩
  · rename_i xs
    cases e2
    cases hv with
    | tup hs ha => exact ⟨_, xs.length, rfl, .inr ⟨_, hs, (dpa_len _ _ ha).symm⟩, q.2 _ H1 s1 (Dp.int _)⟩
  · cases e2
def tyN : PyData → String
  | .none => "NoneType"
  | .bool _ => "bool"
  | .int _ => "int"
  | .str _ => "str"
  | .list _ => "list"
  | .tuple _ => "tuple"
  | .dict _ => "dict"
theorem tyX_of {K : PySem.W.Frag} {H : Hp} {v : V} {d : PyData} (h : Dp K H v d) : TyX K H v (.type (tyN d)) := by
  cases h with
  | non => exact .base .non
  | bl b => exact .base (.bl b)
  | int i => exact .base (.int i)
  | str x => exact .base (.str x)
  | lst hs ha =>
    rcases hs with (h | ⟨o, h⟩) | ⟨o, its, n, h1, h2, _⟩
    · exact .base (.lst h)
    · exact .base (.frz h)
    · exact .kList h1 h2
  | tup hs ha =>
    rcases hs with (h | ⟨o, h⟩) | ⟨o, its, n, h1, h2, _⟩
    · exact .base (.tup h)
    · exact .fTuple h
    · exact .kTuple h1 h2
  | dct h => exact .base (.dK h)
/-- isinstance(x, T), T one of the built-in ones, told by g -/
def wIsi (g : PyData → Bool) : W → Option W
  | .d x => some (.d (.bool (g x)))
  | _ => none
structure IsTy (nm : String) (x : Str) (g : PyData → Bool) : Prop where
  boot : bootBuiltins x = some (.type nm)
  ne : x ≠ "__name__"
  nd : (x == ("__debug__" : Str)) = false
  kit : ∀ d, kitB (tyN d) nm = some (g d)
def isTup : PyData → Bool
  | .tuple _ => true
  | _ => false
def isStr : PyData → Bool
  | .str _ => true
  | _ => false
def isInt : PyData → Bool
  | .int _ => true
  | .bool _ => true
  | _ => false
def isBool : PyData → Bool
  | .bool _ => true
  | _ => false
def isLst : PyData → Bool
  | .list _ => true
  | _ => false
theorem ty_tuple : IsTy "tuple" "tuple" isTup := ⟨by decide +kernel, by decide, by decide, fun d => by cases d <;> (simp only [tyN, isTup, isStr, isInt, isBool, isLst]; decide +kernel)⟩
theorem ty_str : IsTy "str" "str" isStr := ⟨by decide +kernel, by decide, by decide, fun d => by cases d <;> (simp only [tyN, isTup, isStr, isInt, isBool, isLst]; decide +kernel)⟩
theorem ty_int : IsTy "int" "int" isInt := ⟨by decide +kernel, by decide, by decide, fun d => by cases d <;> (simp only [tyN, isTup, isStr, isInt, isBool, isLst]; decide +kernel)⟩
theorem ty_bool : IsTy "bool" "bool" isBool := ⟨by decide +kernel, by decide, by decide, fun d => by cases d <;> (simp only [tyN, isTup, isStr, isInt, isBool, isLst]; decide +kernel)⟩
theorem ty_list : IsTy "list" "list" isLst := ⟨by decide +kernel, by decide, by decide, fun d => by cases d <;> (simp only [tyN, isTup, isStr, isInt, isBool, isLst]; decide +kernel)⟩
theorem boot_isi : bootBuiltins "isinstance" = some (.builtin "isinstance") := by decide +kernel
theorem ok_isi {nm : String} {y : Str} {g : PyData → Bool} {p2 : Pos} (ty : IsTy nm y g) (hb : ("isinstance" : Str) ∈ c.T.bl) (hk : c.sc.names.lookup ("isinstance" : Str) = some .globalImplicit) (hb2 : y ∈ c.T.bl) (hk2 : c.sc.names.lookup y = some .globalImplicit)
    (ha : OkE c e fa) (hs : ∀ env (e2 : Expr), starEach (e :: [Expr.Name y p2]) env = (false, eval e env) :: [(false, eval (Expr.Name y p2) env)] := by intro _ _; rfl) :
    OkE c (.Call (.Name "isinstance" p) [e, .Name y p2] [] pos) (cOp1 (wIsi g) fa) := fun X gd r w h => by
  obtain ⟨x, e1, e2⟩ := cOp1_some h
  have hn : PE X (.Name y p2) (tC (.ty nm)) := pe_bltn ((gd.kind _).trans hk2) (gd.tab.bl _ hb2) ty.boot rfl ty.ne ty.nd
  refine pe_imp (pe_callB call_isi ((gd.kind _).trans hk) (gd.tab.bl _ hb) boot_isi (pa_cons (ha X gd r x e1) (pa_cons hn pa_nil) (hs X.env e)) (he := hs X.env e)) fun s H Q q => ⟨q.1, fun v H1 s1 hv => ?_⟩
  unfold wIsi at e2
  split at e2
  · rename_i d
    cases e2
    have hv : Dp X.K H1 v d := hv
    exact ⟨v, .ty nm, .type (tyN d), .type nm, g d, rfl, .ty nm, tyX_of hv, kit_ty (ty.kit d), q.2 _ H1 s1 (Dp.bl _)⟩
  · cases e2
abbrev wMax := wII fun i j => .d (.int (if j > i then j else i))
abbrev wMin := wII fun i j => .d (.int (if j < i then j else i))
theorem boot_max : bootBuiltins "max" = some (.builtin "max") := by decide +kernel
theorem boot_min : bootBuiltins "min" = some (.builtin "min") := by decide +kernel
theorem boot_abs : bootBuiltins "abs" = some (.builtin "abs") := by decide +kernel
theorem wII_some {g : Int → Int → W} {x y w : W} (h : wII g x y = some w) : ∃ i j, x = .d (.int i) ∧ y = .d (.int j) ∧ w = g i j := by
  unfold wII at h
  split at h
  · rename_i i j
    cases h
    exact ⟨i, j, rfl, rfl, rfl⟩
  · cases h
theorem ok_max (hb : ("max" : Str) ∈ c.T.bl) (hk : c.sc.names.lookup ("max" : Str) = some .globalImplicit) (ha : OkE c a fa) (hb' : OkE c b fb) (hs : ∀ env, starEach [a, b] env = [(false, eval a env), (false, eval b env)] := by intro _; rfl) (hs2 : ∀ env, starEach [b] env = [(false, eval b env)] := by intro _; rfl) :
    OkE c (.Call (.Name "max" p) [a, b] [] pos) (cOp2 wMax fa fb) := fun X gd r w h => by
  obtain ⟨x, y, e1, e2, e3⟩ := cOp2_some h
  obtain ⟨i, j, rfl, rfl, rfl⟩ := wII_some e3
  have h1 : starEach [a, b] X.env = (false, eval a X.env) :: starEach [b] X.env := by rw [hs, hs2]
  refine pe_imp (pe_callB (call_max2 gd.calm) ((gd.kind _).trans hk) (gd.tab.bl _ hb) boot_max (pa_cons (ha X gd r _ e1) (pa_cons (hb' X gd r _ e2) pa_nil (hs2 X.env)) h1) (he := h1) (hpl := by rw [hs2]; rfl)) fun s H Q q => ⟨q.1, fun v H1 s1 hv => ⟨rv_mono s1 q.1, fun u H2 s2 hu => ?_⟩⟩
  obtain rfl := int_of hv
  obtain rfl := int_of hu
  exact ⟨i, j, rfl, q.2 _ H2 (s1.trans s2) (Dp.int _)⟩
theorem ok_min (hb : ("min" : Str) ∈ c.T.bl) (hk : c.sc.names.lookup ("min" : Str) = some .globalImplicit) (ha : OkE c a fa) (hb' : OkE c b fb) (hs : ∀ env, starEach [a, b] env = [(false, eval a env), (false, eval b env)] := by intro _; rfl) (hs2 : ∀ env, starEach [b] env = [(false, eval b env)] := by intro _; rfl) :
    OkE c (.Call (.Name "min" p) [a, b] [] pos) (cOp2 wMin fa fb) := fun X gd r w h => by
  obtain ⟨x, y, e1, e2, e3⟩ := cOp2_some h
  obtain ⟨i, j, rfl, rfl, rfl⟩ := wII_some e3
  have h1 : starEach [a, b] X.env = (false, eval a X.env) :: starEach [b] X.env := by rw [hs, hs2]
  refine pe_imp (pe_callB (call_min2 gd.calm) ((gd.kind _).trans hk) (gd.tab.bl _ hb) boot_min (pa_cons (ha X gd r _ e1) (pa_cons (hb' X gd r _ e2) pa_nil (hs2 X.env)) h1) (he := h1) (hpl := by rw [hs2]; rfl)) fun s H Q q => ⟨q.1, fun v H1 s1 hv => ⟨rv_mono s1 q.1, fun u H2 s2 hu => ?_⟩⟩
  obtain rfl := int_of hv
  obtain rfl := int_of hu
  exact ⟨i, j, rfl, q.2 _ H2 (s1.trans s2) (Dp.int _)⟩
end
end Nm
namespace Nm
open PySem L2

/-! ### the heap without the lists that are one's own -/
open Classical in
noncomputable def mask (H : Hp) (O : Addr → Prop) : Hp := fun b => if O b then none else H b
theorem mask_in {H : Hp} {O : Addr → Prop} {b : Addr} (h : O b) : mask H O b = none := if_pos h
theorem mask_out {H : Hp} {O : Addr → Prop} {b : Addr} (h : ¬ O b) : mask H O b = H b := if_neg h
theorem mask_some {H : Hp} {O : Addr → Prop} {b : Addr} {o : HO} (h : mask H O b = some o) : ¬ O b ∧ H b = some o := by
  by_cases q : O b
  · rw [mask_in q] at h; cases h
  · rw [mask_out q] at h; exact ⟨q, h⟩
/-- what may be changed -/
def MutO : HO → Prop
  | .lst _ => True
  | .dK _ => True
  | _ => False
theorem mut_nt {o : HO} (h : MutO o) (ps : Array Value) : o ≠ .tbl ps := fun z => by rw [z] at h; exact h
theorem mask_sub {H : Hp} {O : Addr → Prop} : Same (mask H O) H := .of fun b o h => (mask_some h).2
theorem mask_tab {H H' : Hp} {O O' : Addr → Prop} (e : ∀ P, TabA H P → TabA H' P) (h : ∀ a, O' a → ∃ o, H' a = some o ∧ MutO o) (P : Addr) (z : TabA (mask H O) P) : TabA (mask H' O') P := by
  obtain ⟨ps, z1, z2, z3⟩ := e P (z.ext fun b o h => (mask_some h).2)
  have no : ∀ b o, H' b = some o → ¬ MutO o → mask H' O' b = some o := fun b o e n => by
    rw [mask_out (fun z => by
      obtain ⟨u, e2, m⟩ := h b z
      rw [e] at e2
      cases e2
      exact n m)]
    exact e
  refine ⟨ps, no _ _ z1 (fun z => z), z2, fun pos cv hc => ?_⟩
  obtain ⟨c, q, e1, e2⟩ := z3 pos cv hc
  exact ⟨c, q, e1, no _ _ e2 (fun z => z)⟩
theorem mask_mono {H H' : Hp} {O : Addr → Prop} (e : Same H H') (h : ∀ a, O a → ∃ o, H a = some o ∧ MutO o) : Same (mask H O) (mask H' O) := ⟨fun b o q n => by
  obtain ⟨h1, h2⟩ := mask_some q
  rw [mask_out h1]
  exact e.to b o h2 n, fun b q => by
  by_cases z : O b
  · exact mask_in z
  · rw [mask_out z] at q ⊢
    exact e.no b q, mask_tab e.tb fun a z => by
  obtain ⟨o, h1, h2⟩ := h a z
  exact ⟨o, e.at h1 (mut_nt h2), h2⟩⟩
theorem mask_no (H : Hp) : mask H (fun _ => False) = H := funext fun b => mask_out (fun h => h)
theorem mask_tsame {H : Hp} {O : Addr → Prop} (h : ∀ a, O a → ∃ o, H a = some o ∧ MutO o) : TSame H (mask H O) := fun a xs q => by
  have n : ¬ O a := fun z => by
    obtain ⟨o, e, m⟩ := h a z
    rcases q with q | ⟨o, q⟩
    · rw [e] at q; cases q; exact m
    · rw [e] at q; cases q; exact m
  rcases q with q | ⟨o, q⟩
  · exact .inl (by rw [mask_out n]; exact q)
  · exact .inr ⟨o, by rw [mask_out n]; exact q⟩
theorem rw_mask {T : Tab} {K : PySem.W.Frag} {mg : Str → Option Value} {H : Hp} {O : Addr → Prop} (h : ∀ a, O a → ∃ o, H a = some o ∧ MutO o) {v : V} : ∀ {w : W}, w.im = true → Rw T K mg H v w → Rw T K mg (mask H O) v w
  | .d x, i, q => dp_tmono (mask_tsame h) x v i q
  | .o c fs, i, ⟨a, C, dx, vs, e1, e2, e3, e4, e5⟩ => by
    refine ⟨a, C, dx, vs, e1, e2, ?_, e4, dpa_tmono (mask_tsame h) fs vs i e5⟩
    rw [mask_out (fun z => by
      obtain ⟨o, e, m⟩ := h a z
      rw [e] at e3; cases e3; exact m)]
    exact e3
  | .m _, i, _ => by cases i
  | .fns _, i, _ => by cases i
  | .fn (.g _), _, q => q
  | .fn (.l _), _, ⟨L, a, c, e1, e2, e3, q, e4⟩ => by
    refine ⟨L, a, c, e1, e2, ?_, q, ?_⟩
    · rw [mask_out (fun z => by
        obtain ⟨o, e, m⟩ := h a z
        rw [e] at e3; cases e3; exact m)]
      exact e3
    · rw [mask_out (fun z => by
        obtain ⟨o, e, m⟩ := h c z
        rw [e] at e4; cases e4; exact m)]
      exact e4

theorem sqt_mono {K : PySem.W.Frag} {H H' : Hp} {a : Addr} {xs : List V} (s : Same H H') (h : SqT K H a xs) : SqT K H' a xs := by
  rcases h with (h | ⟨o, h⟩) | h
  · exact .inl (.inl (s.at h))
  · exact .inl (.inr ⟨o, s.at h⟩)
  · exact .inr h
/-! ### the state of a body -/
def MonoP (g : Hp → Prop) : Prop := ∀ H H', Same H H' → g H → g H'
def Sl.isOwn : Sl → Bool
  | .w _ => false
  | _ => true
/-- what an own thing's object holds -/
def OwnH (K : PySem.W.Frag) (M : Hp) : Sl → HO → Prop
  | .own xs, .lst vs => DpAll K M vs xs
  | .od kvs, .dK kws => KvR K M kws kvs
  | _, _ => False
theorem ownH_cases {K : PySem.W.Frag} {M : Hp} {sl : Sl} {o : HO} (h : OwnH K M sl o) : (∃ xs vs, sl = .own xs ∧ o = .lst vs ∧ DpAll K M vs xs) ∨ ∃ kvs kws, sl = .od kvs ∧ o = .dK kws ∧ KvR K M kws kvs := by
  unfold OwnH at h
  split at h
  · exact .inl ⟨_, _, rfl, rfl, h⟩
  · exact .inr ⟨_, _, rfl, rfl, h⟩
  · exact h.elim
theorem ownH_mut {K : PySem.W.Frag} {M : Hp} {sl : Sl} {o : HO} (h : OwnH K M sl o) : MutO o := by
  rcases ownH_cases h with ⟨xs, vs, rfl, rfl, q⟩ | ⟨kvs, kws, rfl, rfl, q⟩ <;> trivial
theorem ownH_mono {K : PySem.W.Frag} {M M' : Hp} (s : Same M M') {sl : Sl} {o : HO} (h : OwnH K M sl o) : OwnH K M' sl o := by
  rcases ownH_cases h with ⟨xs, vs, rfl, rfl, q⟩ | ⟨kvs, kws, rfl, rfl, q⟩
  · exact dpa_mono s _ _ q
  · exact ⟨q.1, dpa_mono s _ _ q.2⟩
theorem ownH_own {K : PySem.W.Frag} {M : Hp} {sl : Sl} {o : HO} (h : OwnH K M sl o) : sl.isOwn = true := by
  rcases ownH_cases h with ⟨xs, vs, rfl, rfl, q⟩ | ⟨kvs, kws, rfl, rfl, q⟩ <;> rfl
structure RSO (T : Tab) (K : PySem.W.Frag) (mg : Str → Option Value) (gh : Hp → Prop) (He : Hp) (O : Addr → Prop) (H : Hp) (s : L2.St) (r : Rho) : Prop where
  len : s.length = r.length
  ex : Same He H
  ow : ∀ a, O a → He a = none ∧ ∃ o, H a = some o ∧ MutO o
  wv : ∀ (i : Nat) (x : W), r[i]? = some (some (.w x)) → ∃ v, s[i]? = some (some v) ∧ Rw T K mg (mask H O) v x
  og : ∀ (i : Nat) (sl : Sl), r[i]? = some (some sl) → sl.isOwn = true → ∃ (a : Addr) (o : HO), s[i]? = some (some (.ref a)) ∧ O a ∧ H a = some o ∧ OwnH K (mask H O) sl o
  inj : ∀ (i j : Nat) (x y : Sl) (a : Addr), r[i]? = some (some x) → r[j]? = some (some y) → x.isOwn = true → y.isOwn = true → s[i]? = some (some (.ref a)) → s[j]? = some (some (.ref a)) → i = j
  gm : MonoP gh
  gp : gh (mask H O)
  tb : TbOk T K mg He
def RS (T : Tab) (K : PySem.W.Frag) (mg : Str → Option Value) (gh : Hp → Prop) (He : Hp) (H : Hp) (s : L2.St) (r : Rho) : Prop := ∃ O, RSO T K mg gh He O H s r
section
variable {T : Tab} {K : PySem.W.Frag} {mg : Str → Option Value} {gh gi : Hp → Prop} {He H H' : Hp} {s : L2.St} {r : Rho} {O : Addr → Prop}
theorem RSO.ov (h : RSO T K mg gh He O H s r) (i : Nat) (xs : List PyData) (q : r[i]? = some (some (.own xs))) : ∃ (a : Addr) (vs : List V), s[i]? = some (some (.ref a)) ∧ O a ∧ H a = some (.lst vs) ∧ DpAll K (mask H O) vs xs := by
  obtain ⟨a, o, h1, h2, h3, h4⟩ := h.og i _ q rfl
  rcases ownH_cases h4 with ⟨ys, vs, e, rfl, q⟩ | ⟨kvs, kws, e, rfl, q⟩
  · cases e; exact ⟨a, vs, h1, h2, h3, q⟩
  · cases e
theorem RSO.dv (h : RSO T K mg gh He O H s r) (i : Nat) (kvs : List (Str × PyData)) (q : r[i]? = some (some (.od kvs))) : ∃ (a : Addr) (kws : List (Key × V)), s[i]? = some (some (.ref a)) ∧ O a ∧ H a = some (.dK kws) ∧ KvR K (mask H O) kws kvs := by
  obtain ⟨a, o, h1, h2, h3, h4⟩ := h.og i _ q rfl
  rcases ownH_cases h4 with ⟨ys, vs, e, rfl, q⟩ | ⟨kvs, kws, e, rfl, q⟩
  · cases e
  · cases e; exact ⟨a, kws, h1, h2, h3, q⟩
theorem RSO.rv (h : RSO T K mg gh He O H s r) : RV T K mg H s r := ⟨h.len, (fun i x e => by
  unfold rd at e
  split at e
  · rename_i y q
    cases e
    obtain ⟨v, h1, h2⟩ := h.wv i _ q
    exact ⟨v, h1, rw_mono mask_sub h2⟩
  · rename_i xs q
    cases e
    obtain ⟨a, vs, h1, h2, h3, h4⟩ := h.ov i _ q
    exact ⟨_, h1, Dp.lst (SqL.of h3) (dpa_mono mask_sub _ _ h4)⟩
  · rename_i kvs q
    cases e
    obtain ⟨a, vs, h1, h2, h3, h4⟩ := h.dv i _ q
    exact ⟨_, h1, a, vs, rfl, h3, h4.1, dpa_mono mask_sub _ _ h4.2⟩
  · cases e), tb_mono h.ex h.tb⟩
theorem RS.rv (h : RS T K mg gh He H s r) : RV T K mg H s r := let ⟨_, h⟩ := h; h.rv
theorem RS.ex (h : RS T K mg gh He H s r) : Same He H := let ⟨_, h⟩ := h; h.ex
theorem RSO.step (h : RSO T K mg gh He O H s r) (e : Same H H') : RSO T K mg gh He O H' s r where
  len := h.len
  ex := h.ex.trans e
  ow := fun a q => let ⟨h1, xs, h2, h3⟩ := h.ow a q; ⟨h1, xs, e.at h2 (mut_nt h3), h3⟩
  wv := fun i x q => let ⟨v, h1, h2⟩ := h.wv i x q; ⟨v, h1, rw_mono (mask_mono e fun a z => (h.ow a z).2) h2⟩
  og := fun i sl q qo => let ⟨a, o, h1, h2, h3, h4⟩ := h.og i sl q qo; ⟨a, o, h1, h2, e.at h3 (mut_nt (ownH_mut h4)), ownH_mono (mask_mono e fun a z => (h.ow a z).2) h4⟩
  inj := h.inj
  gm := h.gm
  gp := h.gm _ _ (mask_mono e fun a z => (h.ow a z).2) h.gp
  tb := h.tb
theorem RS.step (h : RS T K mg gh He H s r) (e : Same H H') : RS T K mg gh He H' s r := let ⟨O, h⟩ := h; ⟨O, h.step e⟩
/-- no thing of its own is in it -/
def free : Option Sl → Bool
  | some (.own _) => false
  | some (.od _) => false
  | _ => true
theorem free_w (x : W) : free (some (.w x)) = true := rfl
theorem free_none : free none = true := rfl
theorem free_own (xs : List PyData) : free (some (.own xs)) = false := rfl
theorem free_od (xs : List (Str × PyData)) : free (some (.od xs)) = false := rfl
def noOwn (r : Rho) : Bool := r.all free
theorem noOwn_no {r : Rho} (h : noOwn r = true) {i : Nat} {x : Sl} (hx : x.isOwn = true) : r[i]? ≠ some (some x) := fun e => by
  have hm : some x ∈ r := List.mem_of_getElem? e
  have := List.all_eq_true.mp h _ hm
  cases x with
  | w _ => cases hx
  | own _ => cases this
  | od _ => cases this
theorem RS.free (h : RS T K mg gh He H s r) (n : noOwn r = true) : RSO T K mg gh He (fun _ => False) H s r := by
  obtain ⟨O, h⟩ := h
  refine ⟨h.len, h.ex, fun a z => z.elim, fun i x q => ?_, fun i sl q qo => absurd q (noOwn_no n qo), fun i j x y a q _ qo => absurd q (noOwn_no n qo), h.gm, ?_, h.tb⟩
  · obtain ⟨v, h1, h2⟩ := h.wv i x q
    exact ⟨v, h1, by rw [mask_no]; exact rw_mono mask_sub h2⟩
  · rw [mask_no]
    exact h.gm _ _ mask_sub h.gp
theorem get_set {α : Type} {l : List α} {i j : Nat} {x y : α} (h : (l.set i x)[j]? = some y) : (j = i ∧ i < l.length ∧ y = x) ∨ (j ≠ i ∧ l[j]? = some y) := by
  by_cases e : j = i
  · subst e
    by_cases hl : j < l.length
    · rw [List.getElem?_set_self hl] at h
      exact .inl ⟨rfl, hl, (Option.some.inj h).symm⟩
    · have : (l.set j x)[j]? = none := by rw [List.getElem?_eq_none_iff]; simp; omega
      rw [this] at h; cases h
  · rw [List.getElem?_set_ne (Ne.symm e)] at h
    exact .inr ⟨e, h⟩
/-- a slot filled with what is known under the mask -/
theorem RSO.set (h : RSO T K mg gh He O H s r) {v : V} {w : W} (q : Rw T K mg (mask H O) v w) (i : Nat) : RSO T K mg gh He O H (s.set i (some v)) (r.set i (some (.w w))) where
  len := by rw [List.length_set, List.length_set]; exact h.len
  ex := h.ex
  ow := h.ow
  wv := fun j x e => by
    rcases get_set e with ⟨rfl, hl, e1⟩ | ⟨hn, e1⟩
    · cases e1
      exact ⟨v, List.getElem?_set_self (by rw [h.len]; exact hl), q⟩
    · rw [List.getElem?_set_ne (Ne.symm hn)]
      exact h.wv j x e1
  og := fun j x e eo => by
    rcases get_set e with ⟨rfl, hl, e1⟩ | ⟨hn, e1⟩
    · cases e1; cases eo
    · rw [List.getElem?_set_ne (Ne.symm hn)]
      exact h.og j x e1 eo
  inj := fun j k x y a e1 e2 o1 o2 e3 e4 => by
    rcases get_set e1 with ⟨rfl, hl, e5⟩ | ⟨hn, e5⟩
    · cases e5; cases o1
    · rcases get_set e2 with ⟨rfl, hl2, e6⟩ | ⟨hn2, e6⟩
      · cases e6; cases o2
      · rw [List.getElem?_set_ne (Ne.symm hn)] at e3
        rw [List.getElem?_set_ne (Ne.symm hn2)] at e4
        exact h.inj j k x y a e5 e6 o1 o2 e3 e4
  gm := h.gm
  gp := h.gp
  tb := h.tb
theorem RS.setv (h : RS T K mg gh He H s r) {v : V} {w : W} (c : (w.im || noOwn r) = true) (q : Rw T K mg H v w) (i : Nat) : RS T K mg gh He H (s.set i (some v)) (r.set i (some (.w w))) := by
  by_cases ci : w.im = true
  · obtain ⟨O, h⟩ := h
    exact ⟨O, h.set (rw_mask (fun a z => (h.ow a z).2) ci q) i⟩
  · have n : noOwn r = true := by
      rcases Bool.or_eq_true_iff.mp c with z | z
      · exact absurd z ci
      · exact z
    exact ⟨_, (h.free n).set (by rw [mask_no]; exact q) i⟩
/-- no list, no dict in what it holds -/
def Sl.imo : Sl → Bool
  | .w _ => false
  | .own xs => imms xs
  | .od kvs => imms (kvs.map (·.2))
theorem ownH_tmono {K : PySem.W.Frag} {M M' : Hp} (s : TSame M M') {sl : Sl} {o : HO} (i : sl.imo = true) (h : OwnH K M sl o) : OwnH K M' sl o := by
  rcases ownH_cases h with ⟨xs, vs, rfl, rfl, q⟩ | ⟨kvs, kws, rfl, rfl, q⟩
  · exact dpa_tmono s _ _ i q
  · exact ⟨q.1, dpa_tmono s _ _ i q.2⟩
/-- a new thing, one's own from now on -/
theorem RS.setoG (h : RS T K mg gh He H s r) {p : Addr} {o : HO} {x : Sl} (hp : H p = none) (e : Same H H') (h' : H' p = some o) (hd : OwnH K H' x o) (hi : x.imo = true) (i : Nat) :
    RS T K mg gh He H' (s.set i (some (.ref p))) (r.set i (some x)) := by
  obtain ⟨O, h⟩ := h
  have ow' : ∀ a, (O a ∨ a = p) → He a = none ∧ ∃ o, H' a = some o ∧ MutO o := fun a z => by
    rcases z with z | rfl
    · obtain ⟨h1, xs, h2, h3⟩ := h.ow a z
      exact ⟨h1, xs, e.at h2 (mut_nt h3), h3⟩
    · exact ⟨h.ex.free hp, o, h', ownH_mut hd⟩
  have sub : Same (mask H O) (mask H' (fun a => O a ∨ a = p)) := ⟨fun b o q n => by
    obtain ⟨q1, q2⟩ := mask_some q
    rw [mask_out (fun z => z.elim q1 (fun z => by rw [z, hp] at q2; cases q2))]
    exact e.to b o q2 n, fun b q => by
    by_cases z : O b
    · exact mask_in z
    · rw [mask_out z]
      by_cases z2 : b = p
      · rw [z2]; exact hp
      · rw [mask_out (fun y => y.elim z z2)] at q
        exact e.no b q, mask_tab e.tb fun a z => (ow' a z).2⟩
  refine ⟨fun a => O a ∨ a = p, ⟨by rw [List.length_set, List.length_set]; exact h.len, h.ex.trans e, ow', fun j x q => ?_, fun j y q qo => ?_, fun j k y z a e1 e2 o1 o2 e3 e4 => ?_, h.gm, h.gm _ _ sub h.gp, h.tb⟩⟩
  · rcases get_set q with ⟨rfl, hl, e1⟩ | ⟨hn, e1⟩
    · have := ownH_own hd
      cases e1; cases this
    · rw [List.getElem?_set_ne (Ne.symm hn)]
      obtain ⟨v, h1, h2⟩ := h.wv j _ e1
      exact ⟨v, h1, rw_mono sub h2⟩
  · rcases get_set q with ⟨rfl, hl, e1⟩ | ⟨hn, e1⟩
    · cases e1
      exact ⟨p, o, List.getElem?_set_self (by rw [h.len]; exact hl), .inr rfl, h', ownH_tmono (mask_tsame fun a z => (ow' a z).2) hi hd⟩
    · rw [List.getElem?_set_ne (Ne.symm hn)]
      obtain ⟨a, ws, h1, h2, h3, h4⟩ := h.og j y e1 qo
      exact ⟨a, ws, h1, .inl h2, e.at h3 (mut_nt (ownH_mut h4)), ownH_mono sub h4⟩
  · have neo : ∀ (m : Nat) (z : Sl), r[m]? = some (some z) → z.isOwn = true → s[m]? ≠ some (some (.ref p)) := fun m z q1 qo q2 => by
      obtain ⟨a, ws, h1, h2, h3, h4⟩ := h.og m z q1 qo
      rw [h1] at q2
      cases q2
      rw [hp] at h3; cases h3
    rcases get_set e1 with ⟨rfl, hl, e5⟩ | ⟨hn, e5⟩
    · rcases get_set e2 with ⟨rfl, hl2, e6⟩ | ⟨hn2, e6⟩
      · rfl
      · rw [List.getElem?_set_self (by rw [h.len]; exact hl)] at e3
        cases e3
        rw [List.getElem?_set_ne (Ne.symm hn2)] at e4
        exact absurd e4 (neo _ _ e6 o2)
    · rw [List.getElem?_set_ne (Ne.symm hn)] at e3
      rcases get_set e2 with ⟨rfl, hl2, e6⟩ | ⟨hn2, e6⟩
      · rw [List.getElem?_set_self (by rw [h.len]; exact hl2)] at e4
        cases e4
        exact absurd e3 (neo _ _ e5 o1)
      · rw [List.getElem?_set_ne (Ne.symm hn2)] at e4
        exact h.inj j k y z a e5 e6 o1 o2 e3 e4
theorem RS.seto (h : RS T K mg gh He H s r) {p : Addr} {vs : List V} {xs : List PyData} (hp : H p = none) (e : Same H H') (h' : H' p = some (.lst vs)) (hd : DpAll K H' vs xs) (hi : imms xs = true) (i : Nat) :
    RS T K mg gh He H' (s.set i (some (.ref p))) (r.set i (some (.own xs))) := h.setoG (x := .own xs) hp e h' hd hi i
/-- a new list, as data -/
theorem RS.setl (h : RS T K mg gh He H s r) {p : Addr} {vs : List V} {xs : List PyData} (hp : H p = none) (e : Same H H') (h' : H' p = some (.lst vs)) (hd : DpAll K H' vs xs) (hi : (imms xs || noOwn r) = true) (i : Nat) :
    RS T K mg gh He H' (s.set i (some (.ref p))) (r.set i (some (.w (.d (.list xs))))) := by
  by_cases ci : imms xs = true
  · obtain ⟨O, h⟩ := h
    have h2 := h.step e
    have np : ¬ O p := fun z => by
      obtain ⟨_, ys, q, _⟩ := h.ow p z
      rw [hp] at q; cases q
    exact ⟨O, h2.set (w := .d (.list xs)) (Dp.lst (SqL.of (by rw [mask_out np]; exact h')) (dpa_tmono (mask_tsame fun a z => (h2.ow a z).2) _ _ ci hd)) i⟩
  · have n : noOwn r = true := by
      rcases Bool.or_eq_true_iff.mp hi with z | z
      · exact absurd z ci
      · exact z
    exact (h.step e).setv (w := .d (.list xs)) (by rw [n, Bool.or_true]) (Dp.lst (SqL.of h') hd) i
theorem tab_upd {H : Hp} {a : Addr} {o u : HO} (ha : H a = some u) (m : MutO u) (P : Addr) (z : TabA H P) : TabA (upd H a o) P := by
  have no : ∀ b w, H b = some w → ¬ MutO w → upd H a o b = some w := fun b w e n => by
    rw [upd_ne (fun z => by
      rw [z, ha] at e
      cases e
      exact n m)]
    exact e
  obtain ⟨ps, z1, z2, z3⟩ := z
  refine ⟨ps, no _ _ z1 (fun z => z), z2, fun pos cv hc => ?_⟩
  obtain ⟨c, q, e1, e2⟩ := z3 pos cv hc
  exact ⟨c, q, e1, no _ _ e2 (fun z => z)⟩
theorem same_mut {He H : Hp} {a : Addr} {o u : HO} (s : Same He H) (hn : He a = none) (ha : H a = some u) (m : MutO u) : Same He (upd H a o) := ⟨fun b w q n => by
  rw [upd_ne (fun z => by
    rw [z, hn] at q
    cases q)]
  exact s.to b w q n, fun b q => by
  by_cases z : b = a
  · rw [z]; exact hn
  · rw [upd_ne z] at q
    exact s.no b q, fun P z => tab_upd ha m P (s.tb P z)⟩
/-- an own thing changed -/
theorem RSO.mutG (h : RSO T K mg gh He O H s r) {i : Nat} {x y : Sl} {a : Addr} {o : HO} (hi : r[i]? = some (some x)) (hx : x.isOwn = true) (hs : s[i]? = some (some (.ref a))) (hO : O a) (hd : OwnH K (mask H O) y o) :
    RSO T K mg gh He O (upd H a o) s (r.set i (some y)) := by
  have em : mask (upd H a o) O = mask H O := funext fun b => by
    by_cases q : O b
    · rw [mask_in q, mask_in q]
    · rw [mask_out q, mask_out q, upd_ne (fun z => q (by rw [z]; exact hO))]
  have hl : i < r.length := by
    rcases Nat.lt_or_ge i r.length with z | z
    · exact z
    · rw [List.getElem?_eq_none_iff.mpr z] at hi; cases hi
  have exm : Same He (upd H a o) := by
    obtain ⟨h1, zs, h2, h3⟩ := h.ow a hO
    exact same_mut h.ex h1 h2 h3
  refine ⟨by rw [List.length_set]; exact h.len, exm, fun b q => ?_, fun j x q => ?_, fun j z q qo => ?_, fun j k z w b e1 e2 o1 o2 e3 e4 => ?_, h.gm, by rw [em]; exact h.gp, h.tb⟩
  · obtain ⟨h1, zs, h2, h3⟩ := h.ow b q
    by_cases z : b = a
    · subst z; exact ⟨h1, o, upd_same, ownH_mut hd⟩
    · exact ⟨h1, zs, by rw [upd_ne z]; exact h2, h3⟩
  · rw [em]
    rcases get_set q with ⟨rfl, hl, e1⟩ | ⟨hn, e1⟩
    · have := ownH_own hd
      cases e1; cases this
    · exact h.wv j x e1
  · rw [em]
    rcases get_set q with ⟨rfl, hl, e1⟩ | ⟨hn, e1⟩
    · cases e1
      exact ⟨a, o, hs, hO, upd_same, hd⟩
    · obtain ⟨b, ws, h1, h2, h3, h4⟩ := h.og j z e1 qo
      refine ⟨b, ws, h1, h2, ?_, h4⟩
      rw [upd_ne (fun z => hn (by rw [z] at h1; exact h.inj j i _ x a e1 hi qo hx h1 hs))]
      exact h3
  · have back : ∀ (m : Nat) (u : Sl), (r.set i (some y))[m]? = some (some u) → u.isOwn = true → ∃ u' : Sl, r[m]? = some (some u') ∧ u'.isOwn = true := fun m u q qo => by
      rcases get_set q with ⟨rfl, hl, e1⟩ | ⟨hn, e1⟩
      · exact ⟨x, hi, hx⟩
      · exact ⟨u, e1, qo⟩
    obtain ⟨z1, q1, p1⟩ := back j z e1 o1
    obtain ⟨z2, q2, p2⟩ := back k w e2 o2
    exact h.inj j k z1 z2 b q1 q2 p1 p2 e3 e4
theorem RSO.mut (h : RSO T K mg gh He O H s r) {i : Nat} {xs ys : List PyData} {a : Addr} {vs : List V} (hi : r[i]? = some (some (.own xs))) (hs : s[i]? = some (some (.ref a))) (hO : O a) (hd : DpAll K (mask H O) vs ys) :
    RSO T K mg gh He O (upd H a (.lst vs)) s (r.set i (some (.own ys))) := h.mutG (y := .own ys) hi rfl hs hO hd
theorem RS.ghost (h : RSO T K mg gh He O H s r) (hm : MonoP gi) (hg : gi (mask H O)) : RS T K mg (fun M => gh M ∧ gi M) He H s r :=
  ⟨O, h.len, h.ex, h.ow, h.wv, h.og, h.inj, fun A B e q => ⟨h.gm A B e q.1, hm A B e q.2⟩, ⟨h.gp, hg⟩, h.tb⟩
theorem RS.unghost (h : RS T K mg (fun M => gh M ∧ gi M) He H s r) (hm : MonoP gh) : RS T K mg gh He H s r := let ⟨O, h⟩ := h
  ⟨O, h.len, h.ex, h.ow, h.wv, h.og, h.inj, hm, h.gp.1, h.tb⟩
theorem RS.gm (h : RS T K mg gh He H s r) : MonoP gh := let ⟨_, h⟩ := h; h.gm
/-- an own list is data from now on -/
def frz (i : Nat) (r : Rho) : Rho := match r[i]? with
  | some (some (.own xs)) => r.set i (some (.w (.d (.list xs))))
  | some (some (.od kvs)) => r.set i (some (.w (.m kvs)))
  | _ => r
theorem RS.frz (h : RS T K mg gh He H s r) (i : Nat) : RS T K mg gh He H s (Nm.frz i r) := by
  have key : ∀ (x : Sl) (w : W), r[i]? = some (some x) → x.isOwn = true → (∀ a o (M : Hp), M a = some o → OwnH K M x o → Rw T K mg M (.ref a) w) → RS T K mg gh He H s (r.set i (some (.w w))) := fun x w hi hx hw => by
    obtain ⟨O, h⟩ := h
    obtain ⟨a, o, h1, h2, h3, h4⟩ := h.og i x hi hx
    have sub : Same (mask H O) (mask H (fun b => O b ∧ b ≠ a)) := .of fun b o q => by
      obtain ⟨q1, q2⟩ := mask_some q
      rw [mask_out (fun z => q1 z.1)]
      exact q2
    have ea : mask H (fun b => O b ∧ b ≠ a) a = some o := by rw [mask_out (fun z => z.2 rfl)]; exact h3
    refine ⟨fun b => O b ∧ b ≠ a, ⟨by rw [List.length_set]; exact h.len, h.ex, fun b q => h.ow b q.1, fun j y q => ?_, fun j y q qo => ?_, fun j k y z b e1 e2 o1 o2 e3 e4 => ?_, h.gm, h.gm _ _ sub h.gp, h.tb⟩⟩
    · rcases get_set q with ⟨rfl, hl, e1⟩ | ⟨hn, e1⟩
      · cases e1
        exact ⟨_, h1, hw a o _ ea (ownH_mono sub h4)⟩
      · obtain ⟨v, g1, g2⟩ := h.wv j y e1
        exact ⟨v, g1, rw_mono sub g2⟩
    · rcases get_set q with ⟨rfl, hl, e1⟩ | ⟨hn, e1⟩
      · cases e1; cases qo
      · obtain ⟨b, ws, g1, g2, g3, g4⟩ := h.og j y e1 qo
        refine ⟨b, ws, g1, ⟨g2, fun z => hn ?_⟩, g3, ownH_mono sub g4⟩
        rw [z] at g1
        exact h.inj j i y x a e1 hi qo hx g1 h1
    · rcases get_set e1 with ⟨rfl, hl, e5⟩ | ⟨hn, e5⟩
      · cases e5; cases o1
      · rcases get_set e2 with ⟨rfl, hl2, e6⟩ | ⟨hn2, e6⟩
        · cases e6; cases o2
        · exact h.inj j k y z b e5 e6 o1 o2 e3 e4
  unfold Nm.frz
  split
  · rename_i xs e
    refine key _ (.d (.list xs)) e rfl fun a o M hM ho => ?_
    rcases ownH_cases ho with ⟨ys, vs, e, rfl, q⟩ | ⟨kvs, kws, e, rfl, q⟩
    · cases e; exact Dp.lst (SqL.of hM) q
    · cases e
  · rename_i kvs e
    refine key _ (.m kvs) e rfl fun a o M hM ho => ?_
    rcases ownH_cases ho with ⟨ys, vs, e, rfl, q⟩ | ⟨kvs, kws, e, rfl, q⟩
    · cases e
    · cases e; exact ⟨a, kws, rfl, hM, q⟩
  · exact h
end

/-! ### statements -/
inductive Out where
  | nx (r : Rho)
  | rt (z : Res)
  | bk (r : Rho)
  | ct (r : Rho)
abbrev CS := Rho → Option Out
def goal (T : Tab) (X : Cx) (gh : Hp → Prop) (He : Hp) : Out → Ends → Prop
  | .nx r, D => ∀ s H, RS T X.K X.mg gh He H s r → D.nx s H
  | .bk r, D => ∀ s H, RS T X.K X.mg gh He H s r → D.bk s H
  | .ct r, D => ∀ s H, RS T X.K X.mg gh He H s r → D.ct s H
  | .rt (.w x), D => ∀ v H, Same He H → Rw T X.K X.mg H v x → D.rt v H
  | .rt (.fl xs), D => ∀ p vs H, He p = none → Same He H → H p = some (.lst vs) → DpAll X.K H vs xs → D.rt (.ref p) H
  | .rt (.pc _ _), _ => True
  | .rt (.ex _), _ => True
def tS (T : Tab) (X : Cx) (r : Rho) (o : Out) : TS := fun D s H => ∃ gh He, RS T X.K X.mg gh He H s r ∧ goal T X gh He o D
def OkS (c : C0) (st : Stmt) (g : CS) : Prop := ∀ X, Gd c X → X.xe = (fun _ _ => False) → ∀ r o, g r = some o → PS X st (tS c.T X r o)
def OkSs (c : C0) (sts : List Stmt) (g : CS) : Prop := ∀ X, Gd c X → X.xe = (fun _ _ => False) → ∀ r o, g r = some o → PSs X sts (tS c.T X r o)
/-- whatever it comes to -/
def tU (T : Tab) (X : Cx) (g : CS) : TS := fun D s H => ∃ r o, g r = some o ∧ tS T X r o D s H
theorem okU {c : C0} {sts : List Stmt} {g : CS} (h : OkSs c sts g) {X : Cx} (gd : Gd c X) (hx : X.xe = (fun _ _ => False)) : PSs X sts (tU c.T X g) := ⟨fun pins s z H D I q => by
  obtain ⟨r, o, e, q⟩ := q
  exact (h X gd hx r o e).run pins s z H D I q⟩
def sNil : CS := fun r => some (.nx r)
def sSeq (g h : CS) : CS := fun r => match g r with
  | some (.nx r') => h r'
  | o => o
def sNever : CS := fun _ => none
section
variable {c : C0} {pos : Pos} {st : Stmt} {sts : List Stmt} {g h : CS} {f fa fb : Rho → Option W} {e a b : Expr} {i j : Nat} {x y : Str} {px py : Pos}
theorem okSs_nil : OkSs c [] sNil := fun X gd hx r o q => by
  cases q
  exact pss_imp pss_nil fun D s H ⟨gh, He, h1, h2⟩ => h2 s H h1
theorem okSs_cons (h1 : OkS c st g) (h2 : OkSs c sts h) : OkSs c (st :: sts) (sSeq g h) := fun X gd hx r o q => by
  unfold sSeq at q
  split at q
  · rename_i r' e1
    exact pss_imp (pss_cons (h1 X gd hx r _ e1) (h2 X gd hx r' o q)) fun D s H ⟨gh, He, q1, q2⟩ => ⟨gh, He, q1, fun s' H' q3 => ⟨gh, He, q3, q2⟩⟩
  · rename_i hne
    refine pss_imp (pss_cons (h1 X gd hx r o q) pss_never) fun D s H ⟨gh, He, q1, q2⟩ => ⟨gh, He, q1, ?_⟩
    cases o with
    | nx r' => exact absurd q (hne r')
    | rt z => cases z <;> first | exact q2 | trivial
    | bk r' => exact q2
    | ct r' => exact q2
theorem okSs_one (h1 : OkS c st g) : OkSs c [st] g := fun X gd hx r o q => pss_one (h1 X gd hx r o q)
theorem okS_never : OkS c st sNever := fun X gd hx r o q => by cases q
theorem okS_pass : OkS c (.Pass pos) sNil := fun X gd hx r o q => by
  cases q
  exact ps_imp ps_pass fun D s H ⟨gh, He, h1, h2⟩ => h2 s H h1
def sBreak : CS := fun r => some (.bk r)
def sCont : CS := fun r => some (.ct r)
theorem okS_break : OkS c (.Break pos) sBreak := fun X gd hx r o q => by
  cases q
  exact ps_imp ps_break fun D s H ⟨gh, He, h1, h2⟩ => h2 s H h1
theorem okS_continue : OkS c (.Continue pos) sCont := fun X gd hx r o q => by
  cases q
  exact ps_imp ps_continue fun D s H ⟨gh, He, h1, h2⟩ => h2 s H h1
def sIf (q : Rho → Option Bool) (g h : CS) : CS := fun r => match q r with
  | some true => g r
  | some false => h r
  | none => none
theorem okS_if {q : Rho → Option Bool} {sa sb : List Stmt} (hq : OkT c e q) (hg : OkSs c sa g) (hh : OkSs c sb h) : OkS c (.If e sa sb pos) (sIf q g h) := fun X gd hx r o k => by
  unfold sIf at k
  split at k
  · rename_i e1
    exact ps_imp (ps_if (hq X gd r true e1) (hg X gd hx r o k) pss_never) fun D s H ⟨gh, He, q1, q2⟩ => ⟨q1.rv, fun H1 s1 => iteT ⟨gh, He, q1.step s1, q2⟩⟩
  · rename_i e1
    exact ps_imp (ps_if (hq X gd r false e1) pss_never (hh X gd hx r o k)) fun D s H ⟨gh, He, q1, q2⟩ => ⟨q1.rv, fun H1 s1 => iteF ⟨gh, He, q1.step s1, q2⟩⟩
  · cases k
def sRet (f : Rho → Option W) : CS := fun r => match f r with
  | some w => some (.rt (.w w))
  | none => none
theorem okS_ret (he : OkE c e f) : OkS c (.Return (some e) pos) (sRet f) := fun X gd hx r o k => by
  unfold sRet at k
  split at k
  · rename_i w e1
    cases k
    exact ps_imp (ps_ret (he X gd r w e1)) fun D s H ⟨gh, He, q1, q2⟩ => ⟨q1.rv, fun v H1 s1 hv => q2 v H1 (q1.ex.trans s1) hv⟩
  · cases k
def sRetL (f : Rho → Option (List PyData)) : CS := fun r => match f r with
  | some w => some (.rt (.fl w))
  | none => none
theorem okS_retL {f : Rho → Option (List PyData)} (he : OkL c e f) : OkS c (.Return (some e) pos) (sRetL f) := fun X gd hx r o k => by
  unfold sRetL at k
  split at k
  · rename_i w e1
    cases k
    exact ps_imp (ps_ret (he X gd r w e1)) fun D s H ⟨gh, He, q1, q2⟩ => ⟨q1.rv, fun p vs H1 hp s1 h1 hd => q2 p vs H1 (q1.ex.free hp) (q1.ex.trans s1) h1 hd⟩
  · cases k
/-- return xs, xs one's own list -/
def sRetO (i : Nat) : CS := fun r => match r[i]? with
  | some (some (.own xs)) => some (.rt (.fl xs))
  | _ => none
theorem okS_retO (i : Nat) (hN : c.N[i]? = some x) (hv : Vis c.sc x) (hd : (x == ("__debug__" : Str)) = false := by decide) (hcd : (x == ("__classdict__" : Str)) = false := by decide) : OkS c (.Return (some (.Name x px)) pos) (sRetO i) := fun X gd hx r o k => by
  unfold sRetO at k
  split at k
  · rename_i xs e1
    cases k
    refine ps_imp (ps_ret (pe_var (i := i) (by rw [gd.hN]; exact hN) (by rw [gd.hsc]; exact hv) hd hcd)) fun D s H ⟨gh, He, ⟨O, q1⟩, q2⟩ => ?_
    obtain ⟨a, vs, h1, h2, h3, h4⟩ := q1.ov i xs e1
    exact ⟨_, h1, q2 a vs H (q1.ow a h2).1 q1.ex h3 (dpa_mono mask_sub _ _ h4)⟩
  · cases k
def sAsg (i : Nat) (f : Rho → Option W) : CS := fun r => match f r with
  | some w => if w.im || noOwn r then some (.nx (r.set i (some (.w w)))) else none
  | none => none
theorem okS_asg (i : Nat) (hN : c.N[i]? = some x) (hl : Loc c.sc x) (he : OkE c e f) (hs : ∀ env l, swapsWith e (some (.Name x px)) l env = pure false := by intro _ _; rfl) (hf : c.fa = true ∨ c.sc.names.lookup x = some .local := by first | exact .inl rfl | exact .inr rfl) : OkS c (.Assign [.Name x px] e pos) (sAsg i f) := fun X gd hx r o k => by
  unfold sAsg at k
  split at k
  · rename_i w e1
    split at k
    · rename_i hc
      cases k
      exact ps_imp (ps_set (i := i) (by rw [gd.hN]; exact gd.nd) (by rw [gd.hN]; exact hN) (by rw [gd.hsc]; exact hl) (he X gd r w e1) (hs _ _) (gd.st hf)) fun D s H ⟨gh, He, q1, q2⟩ => ⟨q1.rv, fun v H1 s1 hv => q2 _ H1 ((q1.step s1).setv hc hv i)⟩
    · cases k
  · cases k
def sAsgL (i : Nat) (f : Rho → Option (List PyData)) : CS := fun r => match f r with
  | some xs => if imms xs || noOwn r then some (.nx (r.set i (some (.w (.d (.list xs)))))) else none
  | none => none
def sAsgO (i : Nat) (f : Rho → Option (List PyData)) : CS := fun r => match f r with
  | some xs => if imms xs then some (.nx (r.set i (some (.own xs)))) else none
  | none => none
theorem okS_asgL {f : Rho → Option (List PyData)} (i : Nat) (hN : c.N[i]? = some x) (hl : Loc c.sc x) (he : OkL c e f) (hs : ∀ env l, swapsWith e (some (.Name x px)) l env = pure false := by intro _ _; rfl) (hf : c.fa = true ∨ c.sc.names.lookup x = some .local := by first | exact .inl rfl | exact .inr rfl) : OkS c (.Assign [.Name x px] e pos) (sAsgL i f) := fun X gd hx r o k => by
  unfold sAsgL at k
  split at k
  · rename_i w e1
    split at k
    · rename_i hc
      cases k
      exact ps_imp (ps_set (i := i) (by rw [gd.hN]; exact gd.nd) (by rw [gd.hN]; exact hN) (by rw [gd.hsc]; exact hl) (he X gd r w e1) (hs _ _) (gd.st hf)) fun D s H ⟨gh, He, q1, q2⟩ => ⟨q1.rv, fun p vs H1 hp s1 h1 hd => q2 _ H1 (q1.setl hp s1 h1 hd hc i)⟩
    · cases k
  · cases k
theorem okS_asgO {f : Rho → Option (List PyData)} (i : Nat) (hN : c.N[i]? = some x) (hl : Loc c.sc x) (he : OkL c e f) (hs : ∀ env l, swapsWith e (some (.Name x px)) l env = pure false := by intro _ _; rfl) (hf : c.fa = true ∨ c.sc.names.lookup x = some .local := by first | exact .inl rfl | exact .inr rfl) : OkS c (.Assign [.Name x px] e pos) (sAsgO i f) := fun X gd hx r o k => by
  unfold sAsgO at k
  split at k
  · rename_i w e1
    split at k
    · rename_i hc
      cases k
      exact ps_imp (ps_set (i := i) (by rw [gd.hN]; exact gd.nd) (by rw [gd.hN]; exact hN) (by rw [gd.hsc]; exact hl) (he X gd r w e1) (hs _ _) (gd.st hf)) fun D s H ⟨gh, He, q1, q2⟩ => ⟨q1.rv, fun p vs H1 hp s1 h1 hd => q2 _ H1 (q1.seto hp s1 h1 hd hc i)⟩
    · cases k
  · cases k
/-- x += e, ints -/
def sAug (i : Nat) (g : Int → Int → Int) (f : Rho → Option W) : CS := fun r => match rd r i with
  | some (.d (.int m)) => match f r with
    | some (.d (.int n)) => some (.nx (r.set i (some (.w (.d (.int (g m n)))))))
    | _ => none
  | _ => none
theorem okS_aug {op : Operator} {gI : Int → Int → Int} (hop : ∀ X : Cx, PIp X op (ipI gI)) (i : Nat) (hN : c.N[i]? = some x) (hl : Loc c.sc x) (he : OkE c e f) (hf : c.fa = true ∨ c.sc.names.lookup x = some .local := by first | exact .inl rfl | exact .inr rfl) : OkS c (.AugAssign (.Name x px) op e pos) (sAug i gI f) := fun X gd hx r o k => by
  unfold sAug at k
  split at k
  · rename_i m e0
    split at k
    · rename_i n e1
      cases k
      refine ps_imp (ps_aug (i := i) (by rw [gd.hN]; exact gd.nd) (by rw [gd.hN]; exact hN) (by rw [gd.hsc]; exact hl) (he X gd r _ e1) (hop X) (gd.st hf)) fun D s H ⟨gh, He, q1, q2⟩ => ?_
      obtain ⟨v, h1, h2⟩ := q1.rv.2.1 i _ e0
      refine ⟨v, h1, q1.rv, fun u H1 s1 hu => ?_⟩
      exact ⟨m, n, int_of h2, int_of hu, q2 _ H1 ((q1.step s1).setv (w := .d (.int (gI m n))) rfl (Dp.int _) i)⟩
    · cases k
  · cases k
theorem okS_augAdd (i : Nat) (hN : c.N[i]? = some x) (hl : Loc c.sc x) (he : OkE c e f) (hf : c.fa = true ∨ c.sc.names.lookup x = some .local := by first | exact .inl rfl | exact .inr rfl) : OkS c (.AugAssign (.Name x px) .Add e pos) (sAug i (fun m n => m + n) f) := okS_aug (fun X => ip_add) i hN hl he hf
/-- a, b = x, y -/
def sPar (i j : Nat) (fa fb : Rho → Option W) : CS := fun r => match fa r with
  | some v => match fb r with
    | some w => if (v.im && w.im) || noOwn r then some (.nx ((r.set i (some (.w v))).set j (some (.w w)))) else none
    | none => none
  | none => none
theorem noOwn_set {r : Rho} (h : noOwn r = true) (i : Nat) (w : W) : noOwn (r.set i (some (.w w))) = true := by
  unfold noOwn at h ⊢
  rw [List.all_eq_true] at h ⊢
  intro o ho
  rcases List.mem_or_eq_of_mem_set ho with q | q
  · exact h o q
  · subst q; rfl
theorem okS_par {k1 k2} {p1 p2 : Pos} (i j : Nat) (hN : c.N[i]? = some x) (hl : Loc c.sc x) (hN2 : c.N[j]? = some y) (hl2 : Loc c.sc y) (hij : i ≠ j) (ha : OkE c a fa) (hb : OkE c b fb)
    (hP : ∀ X, Gd c X → ∀ ta, PA X [a, b] ta → PS X (.Assign [.Tuple [.Name x px, .Name y py] k1 p1] (.Tuple [a, b] k2 p2) pos) (tPar i j ta))
    (hs : ∀ env, starEach [a, b] env = (false, eval a env) :: starEach [b] env := by intro _; rfl) (hs2 : ∀ env, starEach [b] env = [(false, eval b env)] := by intro _; rfl) :
    OkS c (.Assign [.Tuple [.Name x px, .Name y py] k1 p1] (.Tuple [a, b] k2 p2) pos) (sPar i j fa fb) := fun X gd hx r o k => by
  unfold sPar at k
  split at k
  · rename_i v e1
    split at k
    · rename_i w e2
      split at k
      · rename_i hc
        cases k
        refine ps_imp (hP X gd _ (pa_cons (ha X gd r v e1) (pa_cons (hb X gd r w e2) pa_nil (hs2 X.env)) (hs X.env))) fun D s H ⟨gh, He, q1, q2⟩ => ⟨q1.rv, fun v1 H1 s1 hv1 => ⟨rv_mono s1 q1.rv, fun v2 H2 s2 hv2 => ⟨v1, v2, rfl, q2 _ H2 ?_⟩⟩⟩
        have h3 := q1.step (s1.trans s2)
        have cv : (v.im || noOwn r) = true := by
          rcases Bool.or_eq_true_iff.mp hc with z | z
          · rw [(Bool.and_eq_true_iff.mp z).1]; rfl
          · rw [z, Bool.or_true]
        have cw : (w.im || noOwn (r.set i (some (.w v)))) = true := by
          rcases Bool.or_eq_true_iff.mp hc with z | z
          · rw [(Bool.and_eq_true_iff.mp z).2]; rfl
          · rw [noOwn_set z, Bool.or_true]
        exact (h3.setv cv (rw_mono s2 hv1) i).setv cw hv2 j
      · cases k
    · cases k
  · cases k
/-! ### while -/
def whl (q : Rho → Option Bool) (g : CS) : Nat → CS
  | 0, _ => none
  | n + 1, r => match q r with
    | some true => match g r with
      | some (.nx r') => whl q g n r'
      | some (.ct r') => whl q g n r'
      | some (.bk r') => some (.nx r')
      | some (.rt z) => some (.rt z)
      | none => none
    | some false => some (.nx r)
    | none => none
theorem okS_while {q : Rho → Option Bool} {body : List Stmt} (n : Nat) (hq : OkT c e q) (hg : OkSs c body g) : OkS c (.While e body [] pos) (whl q g n) := fun X gd hx r o k => by
  have hQ : PT X e (fun s H Q => ∃ r b, q r = some b ∧ tQ c.T X r b s H Q) := ⟨fun pins s z H Q I w => by
    obtain ⟨r, b, e1, w⟩ := w
    exact (hq X gd r b e1).run pins s z H Q I w⟩
  refine ps_imp (ps_while (by rw [hx]; exact PassesOwn.never) hQ (okU hg gd hx)) fun D s H ⟨gh, He, q1, q2⟩ => ?_
  refine ⟨fun m s H => ∃ r, RS c.T X.K X.mg gh He H s r ∧ whl q g m r = some o, ⟨n, r, q1, k⟩, fun m s H ⟨r, h1, h2⟩ => ?_⟩
  cases m with
  | zero => cases h2
  | succ m =>
    unfold whl at h2
    split at h2
    · rename_i e1
      refine ⟨r, true, e1, h1.rv, fun H1 s1 => iteT ⟨fun s' H' => ∃ r', RS c.T X.K X.mg gh He H' s' r' ∧ whl q g m r' = some o, fun s' H' ⟨r', q3, q4⟩ => ⟨m, Nat.lt_succ_self m, r', q3, q4⟩, ?_⟩⟩
      split at h2
      · rename_i r' e2
        exact ⟨r, _, e2, gh, He, h1.step s1, fun s' H' q3 => ⟨r', q3, h2⟩⟩
      · rename_i r' e2
        exact ⟨r, _, e2, gh, He, h1.step s1, fun s' H' q3 => ⟨r', q3, h2⟩⟩
      · rename_i r' e2
        cases h2
        exact ⟨r, _, e2, gh, He, h1.step s1, fun s' H' q3 => q2 s' H' q3⟩
      · rename_i z e2
        cases h2
        refine ⟨r, _, e2, gh, He, h1.step s1, ?_⟩
        cases z <;> exact q2
      · cases h2
    · rename_i e1
      cases h2
      exact ⟨r, false, e1, h1.rv, fun H1 s1 => iteF (q2 s H1 (h1.step s1))⟩
    · cases h2
/-! ### for -/
/-- what a walked thing does, by the data it gives -/
structure Wk (K : PySem.W.Frag) (J : It) (gi : Hp → Prop) (ds : List PyData) : Prop where
  go : ∀ i H O, gi (mask H O) → i < ds.length → J.go i H
  yl : ∀ i H O x H' d, (∀ a, O a → H a ≠ none) → gi (mask H O) → ds[i]? = some d → J.yld i H x H' → Same H H' ∧ Dp K (mask H' O) x d
  st : ∀ H O, gi (mask H O) → J.stop ds.length H
def OkIt (c : C0) (tg iter : Expr) (f : Rho → Option (List PyData)) : Prop := ∀ X, Gd c X → ∀ r ds, f r = some ds → ∃ wi, PI X tg iter wi ∧
  ∀ gh He s H, RS c.T X.K X.mg gh He H s r → ∀ R : It → Hp → Prop, (∀ J H' gi, MonoP gi → Same H H' → RS c.T X.K X.mg (fun M => gh M ∧ gi M) He H' s r → Wk X.K J gi ds → R J H') → wi s H R
def OkG (c : C0) (tg : Expr) (g : PyData → Rho → Option Rho) : Prop := ∀ X, Gd c X → ∃ t, PG X tg t ∧ ∀ d r r', g d r = some r' → ∀ gh He O H s x, RSO c.T X.K X.mg gh He O H s r → Dp X.K (mask H O) x d →
  ∀ Q : L2.St → Hp → Prop, (∀ s', RS c.T X.K X.mg gh He H s' r' → Q s' H) → t x s H Q
def gN (i : Nat) : PyData → Rho → Option Rho := fun d r => some (r.set i (some (.w (.d d))))
theorem okG_name (i : Nat) (hN : c.N[i]? = some x) (hl : Loc c.sc x) (hf : c.fa = true ∨ c.sc.names.lookup x = some .local := by first | exact .inl rfl | exact .inr rfl) : OkG c (.Name x px) (gN i) := fun X gd =>
  ⟨_, pg_name (i := i) (by rw [gd.hN]; exact gd.nd) (by rw [gd.hN]; exact hN) (by rw [gd.hsc]; exact hl) (gd.st hf), fun d r r' e gh He O H s v h1 h2 Q k => by
    cases e
    exact k _ ⟨O, h1.set (w := .d d) h2 i⟩⟩
def gN2 (i j : Nat) : PyData → Rho → Option Rho := fun d r => match d with
  | .tuple [a, b] => some ((r.set i (some (.w (.d a)))).set j (some (.w (.d b))))
  | _ => none
theorem okG_two {k} {p1 : Pos} (i j : Nat) (hN : c.N[i]? = some x) (hl : Loc c.sc x) (hN2 : c.N[j]? = some y) (hl2 : Loc c.sc y) (hf : c.fa = true ∨ c.sc.names.lookup x = some .local := by first | exact .inl rfl | exact .inr rfl) (hf2 : c.fa = true ∨ c.sc.names.lookup y = some .local := by first | exact .inl rfl | exact .inr rfl) : OkG c (.Tuple [.Name x px, .Name y py] k p1) (gN2 i j) := fun X gd =>
  ⟨_, pg_tup gd.calm (pgs_cons (pg_name (i := i) (by rw [gd.hN]; exact gd.nd) (by rw [gd.hN]; exact hN) (by rw [gd.hsc]; exact hl) (gd.st hf))
      (pgs_cons (pg_name (i := j) (by rw [gd.hN]; exact gd.nd) (by rw [gd.hN]; exact hN2) (by rw [gd.hsc]; exact hl2) (gd.st hf2)) pgs_nil)), fun d r r' e gh He O H s v h1 h2 Q kk => by
    unfold gN2 at e
    split at e
    · rename_i a b
      cases e
      cases h2 with
      | tup hs ha =>
        cases ha with
        | cons ha1 ha2 =>
          cases ha2 with
          | cons ha2 ha3 =>
            cases ha3
            exact ⟨_, _, rfl, sqt_mono mask_sub hs, rfl, _, _, rfl, _, _, rfl, rfl, kk _ ⟨O, (h1.set (w := .d a) ha1 i).set (w := .d b) ha2 j⟩⟩
    · cases e⟩
/-- the walk -/
def forW (g : PyData → Rho → Option Rho) (h : CS) : List PyData → CS
  | [], r => some (.nx r)
  | d :: ds, r => match g d r with
    | some r1 => match h r1 with
      | some (.nx r') => forW g h ds r'
      | some (.ct r') => forW g h ds r'
      | some (.bk r') => some (.nx r')
      | some (.rt z) => some (.rt z)
      | none => none
    | none => none
def sFor (g : PyData → Rho → Option Rho) (f : Rho → Option (List PyData)) (h : CS) : CS := fun r => match f r with
  | some ds => forW g h ds r
  | none => none
theorem okS_for {tg iter : Expr} {body : List Stmt} {gt : PyData → Rho → Option Rho} {f : Rho → Option (List PyData)} (hi : OkIt c tg iter f) (hg : OkG c tg gt) (hb : OkSs c body h) (hf : ∀ env x, foldedSetIterable iter env x = pure x := by intro _ _; rfl) :
    OkS c (.For tg iter body [] pos) (sFor gt f h) := fun X gd hx r o k => by
  unfold sFor at k
  split at k
  · rename_i ds e1
    obtain ⟨wi, pI, hI⟩ := hi X gd r ds e1
    obtain ⟨t, pG, hG⟩ := hg X gd
    refine ps_imp (ps_for (by rw [hx]; exact PassesOwn.never) gd.calm pI pG (okU hb gd hx) (hf X.env)) fun D s H ⟨gh, He, q1, q2⟩ => ?_
    refine hI gh He s H q1 _ fun J H' gi hm e' q3 wk => ?_
    refine ⟨fun i m s H => m = ds.length - i ∧ i ≤ ds.length ∧ ∃ r, RS c.T X.K X.mg (fun M => gh M ∧ gi M) He H s r ∧ forW gt h (ds.drop i) r = some o, ⟨ds.length, by simp, Nat.zero_le _, r, q3, k⟩, ?_⟩
    rintro i m s H ⟨rfl, hi, r, ⟨O, h1⟩, h2⟩
    by_cases hlt : i < ds.length
    · rw [List.drop_eq_getElem_cons hlt] at h2
      unfold forW at h2
      split at h2
      · rename_i r1 e2
        refine .inr ⟨wk.go i H O h1.gp.2 hlt, fun s' H' => ∃ r', RS c.T X.K X.mg (fun M => gh M ∧ gi M) He H' s' r' ∧ forW gt h (ds.drop (i + 1)) r' = some o, fun s' H' ⟨r', q4, q5⟩ => ⟨ds.length - (i + 1), by omega, rfl, hlt, r', q4, q5⟩, fun x H2 hy => ?_⟩
        obtain ⟨s2, hd⟩ := wk.yl i H O x H2 ds[i] (fun a z => by obtain ⟨_, xs, q, _⟩ := h1.ow a z; rw [q]; simp) h1.gp.2 (List.getElem?_eq_getElem hlt) hy
        refine hG _ _ _ e2 _ He O H2 s x (h1.step s2) hd _ fun s' q4 => ?_
        split at h2
        · rename_i r' e3
          exact ⟨r1, _, e3, _, He, q4, fun s3 H3 q5 => ⟨r', q5, h2⟩⟩
        · rename_i r' e3
          exact ⟨r1, _, e3, _, He, q4, fun s3 H3 q5 => ⟨r', q5, h2⟩⟩
        · rename_i r' e3
          cases h2
          exact ⟨r1, _, e3, _, He, q4, fun s3 H3 q5 => q2 s3 H3 (q5.unghost q1.gm)⟩
        · rename_i z e3
          cases h2
          refine ⟨r1, _, e3, _, He, q4, ?_⟩
          cases z <;> exact q2
        · cases h2
      · cases h2
    · have e : i = ds.length := by omega
      subst e
      rw [List.drop_length] at h2
      cases h2
      exact .inl ⟨wk.st H O h1.gp.2, q2 s H (RS.unghost ⟨O, h1⟩ q1.gm)⟩
  · cases k
/-! ### walked things -/
def itT (f : Rho → Option W) : Rho → Option (List PyData) := fun r => match f r with
  | some (.d (.tuple ds)) => if imms ds || noOwn r then some ds else none
  | _ => none
theorem okI_tup {tg : Expr} (he : OkE c e f) : OkIt c tg e (itT f) := fun X gd r ds k => by
  unfold itT at k
  split at k
  · rename_i ds' e1
    split at k
    · rename_i hc
      cases k
      refine ⟨_, pi_tup (he X gd r _ e1), fun gh He s H q1 R k => ⟨q1.rv, fun v H1 s1 hv => ?_⟩⟩
      cases hv with
      | tup hs ha =>
        rename_i a xs
        refine ⟨a, rfl, ⟨_, hs⟩, k (Itt X.K a) H1 (fun M => SqT X.K M a xs ∧ DpAll X.K M xs ds) (fun A B e q => ⟨sqt_mono e q.1, dpa_mono e _ _ q.2⟩) s1 ?_ ?_⟩
        · have h2 := q1.step s1
          by_cases ci : imms ds = true
          · obtain ⟨O, h2⟩ := h2
            have tm := mask_tsame fun a z => (h2.ow a z).2
            refine RS.ghost h2 (fun A B e q => ⟨sqt_mono e q.1, dpa_mono e _ _ q.2⟩) ⟨?_, dpa_tmono tm _ _ ci ha⟩
            rcases hs with h | h
            · exact .inl (tm _ _ h)
            · exact .inr h
          · have n : noOwn r = true := by
              rcases Bool.or_eq_true_iff.mp hc with z | z
              · exact absurd z ci
              · exact z
            exact RS.ghost (h2.free n) (fun A B e q => ⟨sqt_mono e q.1, dpa_mono e _ _ q.2⟩) (by rw [mask_no]; exact ⟨hs, ha⟩)
        · refine ⟨fun i H O g hi => ?_, fun i H O x H' d hO g hd hy => ?_, fun H O g => ?_⟩
          · have hi' : i < xs.length := by rw [dpa_len _ _ ha]; exact hi
            exact ⟨xs, xs[i], sqt_mono mask_sub g.1, List.getElem?_eq_getElem hi'⟩
          · obtain ⟨rfl, hy⟩ := hy
            refine ⟨Same.refl _, ?_⟩
            have e3 := hy xs (sqt_mono mask_sub g.1)
            obtain ⟨d', h3, h4⟩ := dpa_getV _ _ i x g.2 e3
            rw [hd] at h3
            cases h3
            exact h4
          · exact ⟨xs, sqt_mono mask_sub g.1, Nat.le_of_eq (dpa_len _ _ ha)⟩
    · cases k
  · cases k
/-- sign by sign -/
def chs (z : Str) : List PyData := z.cps.toList.map fun n => .str ⟨#[n]⟩
def itS (f : Rho → Option W) : Rho → Option (List PyData) := fun r => match f r with
  | some (.d (.str z)) => some (chs z)
  | _ => none
theorem trueMono : MonoP (fun _ => True) := fun _ _ _ _ => trivial
theorem RS.ghostT {T : Tab} {K : PySem.W.Frag} {mg : Str → Option Value} {gh : Hp → Prop} {He H : Hp} {s : L2.St} {r : Rho} (h : RS T K mg gh He H s r) : RS T K mg (fun M => gh M ∧ True) He H s r := let ⟨O, h⟩ := h; RS.ghost h trueMono trivial
theorem okI_str {tg : Expr} (he : OkE c e f) : OkIt c tg e (itS f) := fun X gd r ds k => by
  unfold itS at k
  split at k
  · rename_i z e1
    cases k
    refine ⟨_, pi_str (he X gd r _ e1), fun gh He s H q1 R k => ⟨q1.rv, fun v H1 s1 hv => ⟨z, str_of hv, k (Its z) H1 (fun _ => True) trueMono s1 (q1.step s1).ghostT ?_⟩⟩⟩
    refine ⟨fun i H O g hi => ?_, fun i H O x H' d hO g hd hy => ?_, fun H O g => ?_⟩
    · have hi' : i < z.cps.size := by simpa [chs] using hi
      exact hi'
    · obtain ⟨rfl, n, e2, rfl⟩ := hy
      refine ⟨Same.refl _, ?_⟩
      unfold chs at hd
      rw [List.getElem?_map] at hd
      have e3 : z.cps.toList[i]? = some n := by rw [Array.getElem?_toList]; exact e2
      rw [e3] at hd
      cases hd
      exact Dp.str _
    · show z.cps.size ≤ (chs z).length
      simp [chs]
  · cases k
/-- lo, lo + c, .. -/
def rngD (lo c : Int) (n : Nat) : List PyData := (List.range n).map fun i => .int (lo + (i : Nat) * c)
def itR1 (fa : Rho → Option W) : Rho → Option (List PyData) := fun r => match fa r with
  | some (.d (.int j)) => if -(2 ^ 62) ≤ j ∧ j < 2 ^ 62 then some (rngD 0 1 j.toNat) else none
  | _ => none
def itR2 (fa fb : Rho → Option W) : Rho → Option (List PyData) := fun r => match fa r with
  | some (.d (.int i)) => match fb r with
    | some (.d (.int j)) => if -(2 ^ 62) ≤ i ∧ i < 2 ^ 62 ∧ -(2 ^ 62) ≤ j ∧ j < 2 ^ 62 then some (rngD i 1 (j - i).toNat) else none
    | _ => none
  | _ => none
def itR3 (fa fb fc : Rho → Option W) : Rho → Option (List PyData) := fun r => match fa r with
  | some (.d (.int i)) => match fb r with
    | some (.d (.int j)) => match fc r with
      | some (.d (.int c)) => if c ≠ 0 ∧ c.natAbs < 1073741824 ∧ Builtin.Range.small i j c = true ∧ 0 ≤ Builtin.Range.rangeSize i j c then some (rngD i c (Builtin.Range.rangeSize i j c).toNat) else none
      | _ => none
    | _ => none
  | _ => none
theorem wk_rng {K : PySem.W.Frag} {J : It} {lo c : Int} {n : Nat} (h1 : ∀ i H, i < n → J.go i H) (h2 : ∀ i H x H', J.yld i H x H' → H' = H ∧ x = .int (lo + (i : Nat) * c)) (h3 : ∀ H, J.stop n H) : Wk K J (fun _ => True) (rngD lo c n) := by
  refine ⟨fun i H O g hi => h1 i H (by simpa [rngD] using hi), fun i H O x H' d hO g hd hy => ?_, fun H O g => ?_⟩
  · obtain ⟨rfl, rfl⟩ := h2 i H x H' hy
    refine ⟨Same.refl _, ?_⟩
    unfold rngD at hd
    rw [List.getElem?_map] at hd
    cases e : (List.range n)[i]? with
    | none => rw [e] at hd; cases hd
    | some m =>
      rw [e] at hd
      have : m = i := by
        obtain ⟨h, e2⟩ := List.getElem?_eq_some_iff.mp e
        simpa using e2.symm
      subst this
      cases hd
      exact Dp.int _
  · have : (rngD lo c n).length = n := by simp [rngD]
    rw [this]
    exact h3 H
theorem okI_rng1 {tg : Expr} {p : Pos} (hb : ("range" : Str) ∈ c.T.bl) (hk : c.sc.names.lookup ("range" : Str) = some .globalImplicit) (ha : OkE c a fa) (hs : ∀ env, starEach [a] env = [(false, eval a env)] := by intro _; rfl) : OkIt c tg (.Call (.Name "range" p) [a] [] pos) (itR1 fa) := fun X gd r ds k => by
  unfold itR1 at k
  split at k
  · rename_i j e1
    split at k
    · rename_i hc
      cases k
      refine ⟨_, pi_range1 ((gd.kind _).trans hk) (gd.tab.bl _ hb) (pa_cons (ha X gd r _ e1) pa_nil (hs X.env)) (hs X.env), fun gh He s H q1 R kk => ⟨q1.rv, fun v H1 s1 hv => ?_⟩⟩
      obtain rfl := int_of hv
      exact ⟨j, rfl, hc.1, hc.2, kk _ H1 (fun _ => True) trueMono s1 (q1.step s1).ghostT (wk_rng (fun i H hi => hi) (fun i H x H' hy => ⟨hy.1, by rw [hy.2]; simp⟩) (fun H => Nat.le_refl _))⟩
    · cases k
  · cases k
theorem okI_rng2 {tg : Expr} {p : Pos} (hb : ("range" : Str) ∈ c.T.bl) (hk : c.sc.names.lookup ("range" : Str) = some .globalImplicit) (ha : OkE c a fa) (hb' : OkE c b fb) (hs : ∀ env, starEach [a, b] env = [(false, eval a env), (false, eval b env)] := by intro _; rfl) (hs2 : ∀ env, starEach [b] env = [(false, eval b env)] := by intro _; rfl) : OkIt c tg (.Call (.Name "range" p) [a, b] [] pos) (itR2 fa fb) := fun X gd r ds k => by
  unfold itR2 at k
  split at k
  · rename_i i e1
    split at k
    · rename_i j e2
      split at k
      · rename_i hc
        cases k
        have h1 : starEach [a, b] X.env = (false, eval a X.env) :: starEach [b] X.env := by rw [hs, hs2]
        refine ⟨_, pi_range2 ((gd.kind _).trans hk) (gd.tab.bl _ hb) (pa_cons (ha X gd r _ e1) (pa_cons (hb' X gd r _ e2) pa_nil (hs2 X.env)) h1) (hs X.env) (hs2 X.env), fun gh He s H q1 R kk => ⟨q1.rv, fun v H1 s1 hv => ⟨rv_mono s1 q1.rv, fun u H2 s2 hu => ?_⟩⟩⟩
        obtain rfl := int_of hv
        obtain rfl := int_of hu
        exact ⟨i, j, rfl, hc, kk _ H2 (fun _ => True) trueMono (s1.trans s2) (q1.step (s1.trans s2)).ghostT (wk_rng (fun i H hi => hi) (fun i H x H' hy => ⟨hy.1, by rw [hy.2]; simp⟩) (fun H => Nat.le_refl _))⟩
      · cases k
    · cases k
  · cases k
theorem okI_rng3 {tg d : Expr} {p : Pos} {fd : Rho → Option W} (hb : ("range" : Str) ∈ c.T.bl) (hk : c.sc.names.lookup ("range" : Str) = some .globalImplicit) (ha : OkE c a fa) (hb' : OkE c b fb) (hd : OkE c d fd)
    (hs : ∀ env, starEach [a, b, d] env = (false, eval a env) :: (false, eval b env) :: [(false, eval d env)] := by intro _; rfl) (hs1 : ∀ env, starEach [b, d] env = (false, eval b env) :: [(false, eval d env)] := by intro _; rfl) (hs2 : ∀ env, starEach [d] env = [(false, eval d env)] := by intro _; rfl) : OkIt c tg (.Call (.Name "range" p) [a, b, d] [] pos) (itR3 fa fb fd) := fun X gd r ds k => by
  unfold itR3 at k
  split at k
  · rename_i i e1
    split at k
    · rename_i j e2
      split at k
      · rename_i z e3
        split at k
        · rename_i hc
          cases k
          have h1 : starEach [a, b, d] X.env = (false, eval a X.env) :: starEach [b, d] X.env := by rw [hs, hs1]
          have h2 : starEach [b, d] X.env = (false, eval b X.env) :: starEach [d] X.env := by rw [hs1, hs2]
          refine ⟨_, pi_range3 ((gd.kind _).trans hk) (gd.tab.bl _ hb) (pa_cons (ha X gd r _ e1) (pa_cons (hb' X gd r _ e2) (pa_cons (hd X gd r _ e3) pa_nil (hs2 X.env)) h2) h1) h1 (by rw [hs1]; rfl), fun gh He s H q1 R kk => ⟨q1.rv, fun v H1 s1 hv => ⟨rv_mono s1 q1.rv, fun u H2 s2 hu => ⟨rv_mono (s1.trans s2) q1.rv, fun t H3 s3 ht => ?_⟩⟩⟩⟩
          obtain rfl := int_of hv
          obtain rfl := int_of hu
          obtain rfl := int_of ht
          refine ⟨i, j, z, _, rfl, ⟨hc.1, hc.2.1, hc.2.2.1, ?_⟩, kk _ H3 (fun _ => True) trueMono (s1.trans (s2.trans s3)) (q1.step (s1.trans (s2.trans s3))).ghostT (wk_rng (n := (Builtin.Range.rangeSize i j z).toNat) (fun i H hi => hi) (fun i H x H' hy => ⟨hy.1, hy.2⟩) (fun H => Nat.le_refl _))⟩
          have := hc.2.2.2
          omega
        · cases k
      · cases k
    · cases k
  · cases k
end
end Nm
namespace Nm
open PySem L2
section
variable {c : C0} {pos : Pos} {a b e : Expr} {fa fb f : Rho → Option W} {x y : Str} {px py p : Pos} {i j : Nat}
/-! ### is True, is False -/
def wIsB (neg : Bool) : W → W → Option W
  | .d (.bool i), .d (.bool j) => some (.d (.bool (if neg then !decide (i = j) else decide (i = j))))
  | _, _ => none
theorem oo_isB : OpOk c (wIsB false) (fun _ => rIsB) := fun X g H x y v u w Q h hx hy k => by
  unfold wIsB at h
  split at h
  · rename_i i j
    cases h
    exact ⟨i, j, bl_of hx, bl_of hy, k _ H (Same.refl H) (Dp.bl _)⟩
  · cases h
theorem oo_notB : OpOk c (wIsB true) (fun _ => rNotB) := fun X g H x y v u w Q h hx hy k => by
  unfold wIsB at h
  split at h
  · rename_i i j
    cases h
    exact ⟨i, j, bl_of hx, bl_of hy, k _ H (Same.refl H) (Dp.bl _)⟩
  · cases h
theorem ok_isB (ha : OkE c a fa) (hb : OkE c b fb) : OkE c (.Compare a [.Is] [b] pos) (cOp2 (wIsB false) fa fb) := ok_cmp (fun X g => op_isBl) oo_isB ha hb (nomark _)
theorem ok_notB (ha : OkE c a fa) (hb : OkE c b fb) : OkE c (.Compare a [.IsNot] [b] pos) (cOp2 (wIsB true) fa fb) := ok_cmp (fun X g => op_notBl) oo_notB ha hb (nomark _)
theorem okT_isB (ha : OkE c a fa) (hb : OkE c b fb) : OkT c (.Compare a [.Is] [b] pos) (cT (cOp2 (wIsB false) fa fb)) := okT_cmp (fun X g => op_isBl) oo_isB ha hb (nomark _)
theorem okT_notB (ha : OkE c a fa) (hb : OkE c b fb) : OkT c (.Compare a [.IsNot] [b] pos) (cT (cOp2 (wIsB true) fa fb)) := okT_cmp (fun X g => op_notBl) oo_notB ha hb (nomark _)
/-! ### lists put together -/
def rCatS (K : PySem.W.Frag) : R2 := fun x y H Q => ∃ l b xs zs, x = .ref l ∧ y = .ref b ∧ SqL K H l xs ∧ SqL K H b zs ∧ xs.length + zs.length ≤ sizeLine ∧ ∀ p, H p = none → Q (.ref p) (upd H p (.lst (xs ++ zs)))
theorem op_catS {X : Cx} : OpR X (binaryOp .Add) (rCatS X.K) := by
  intro pins s z H x y v u Q I rx ry h
  obtain ⟨l, b, xs, zs, rfl, rfl, hH, hB, hz, q⟩ := h
  cases rx
  cases ry
  obtain ⟨its, r, ⟨⟨cls, dd, data, sl⟩, n, ho, hc, _, hd⟩, _⟩ := I.list hH
  obtain ⟨its2, r2, ⟨⟨cls2, dd2, data2, sl2⟩, n2, ho2, hc2, _, hd2⟩, _⟩ := I.list hB
  simp only at hc hd hc2 hd2
  subst hc hd hc2 hd2
  have l1 := r.length
  have l2 := r2.length
  have ea : its.toArray ++ its2.toArray = (its ++ its2).toArray := by simp
  refine concat_meets ⟨_, ho, rfl⟩ ⟨_, ho2, rfl⟩ noFill_list_add seq_list_add PySem.F.slot_list_add PySem.F.entry_list_add (PySem.F.args_list_add_2 _ _) (PyProof.Rows.list_addW l b its.toArray its2.toArray n n2 dd dd2 sl sl2 (by rw [List.size_toArray, List.size_toArray]; omega)) ⟨ho, ho2, ?_⟩
  rw [ea]
  exact ⟨.ref _, _, I.lnew (t' := s.toks) (r.append r2) (by rw [List.length_append]; omega), rfl, q _ I.fresh⟩
def lCat (fa fb : Rho → Option W) : Rho → Option (List PyData) := fun r => match fa r with
  | some (.d (.list xs)) => match fb r with
    | some (.d (.list ys)) => if xs.length + ys.length ≤ 100000 then some (xs ++ ys) else none
    | _ => none
  | _ => none
theorem ok_cat (ha : OkE c a fa) (hb : OkE c b fb) : OkL c (.BinOp a .Add b pos) (lCat fa fb) := fun X gd r w h => by
  unfold lCat at h
  split at h
  · rename_i xs e1
    split at h
    · rename_i ys e2
      split at h
      · rename_i hz
        cases h
        refine pe_imp (pe_op op_catS (ha X gd r _ e1) (hb X gd r _ e2)) fun s H Q q => ⟨q.1, fun v H1 s1 hv => ⟨rv_mono s1 q.1, fun u H2 s2 hu => ?_⟩⟩
        have hv := rw_mono (w := .d (.list xs)) s2 hv
        cases hv with
        | lst hs ha =>
          cases hu with
          | lst hs2 ha2 =>
            refine ⟨_, _, _, _, rfl, rfl, hs, hs2, by rw [dpa_len _ _ ha, dpa_len _ _ ha2]; exact sz hz, fun p hp => ?_⟩
            exact q.2 p _ _ ((s1.trans s2).free hp) ((s1.trans s2).trans (same_new hp _)) upd_same (dpa_mono (same_new hp _) _ _ (dpa_app _ _ _ _ ha ha2))
      · cases h
    · cases h
  · cases h
/-! ### slices -/
def OkO (c : C0) (o : Option Expr) (f : Rho → Option (Option Int)) : Prop := ∀ X, Gd c X → ∀ r z, f r = some z → ∃ t, PO X o t ∧ ∀ s H Q, RV c.T X.K X.mg H s r → (∀ H', Same H H' → Q z H') → t s H Q
def oNone : Rho → Option (Option Int) := fun _ => some none
def oSome (f : Rho → Option W) : Rho → Option (Option Int) := fun r => match f r with
  | some (.d (.int i)) => some (some i)
  | _ => none
theorem okO_none : OkO c none oNone := fun X gd r z h => by
  cases h
  exact ⟨_, po_none, fun s H Q h1 h2 => h2 H (Same.refl H)⟩
theorem okO_some (h : OkE c e f) : OkO c (some e) (oSome f) := fun X gd r z k => by
  unfold oSome at k
  split at k
  · rename_i i e1
    cases k
    exact ⟨_, po_some (h X gd r _ e1), fun s H Q h1 h2 => ⟨h1, fun v H1 s1 hv => ⟨i, int_of hv, h2 H1 s1⟩⟩⟩
  · cases k
variable {lo hi : Option Expr} {fl fh : Rho → Option (Option Int)} {p2 : Pos}
def cSlS (f : Rho → Option W) (fl fh : Rho → Option (Option Int)) : Rho → Option W := fun r => match f r with
  | some (.d (.str z)) => match fl r with
    | some l => match fh r with
      | some h => if z.length ≤ 100000 then some (.d (.str (cutS z l h))) else none
      | none => none
    | none => none
  | _ => none
theorem ok_slS (h : OkE c e f) (hl : OkO c lo fl) (hh : OkO c hi fh) : OkE c (.Subscript e (.Slice lo hi none p2) pos) (cSlS f fl fh) := fun X gd r w k => by
  unfold cSlS at k
  split at k
  · rename_i z e1
    split at k
    · rename_i l e2
      split at k
      · rename_i u e3
        split at k
        · rename_i hz
          cases k
          obtain ⟨tl, pl, kl⟩ := hl X gd r l e2
          obtain ⟨th, ph, kh⟩ := hh X gd r u e3
          refine pe_imp (pe_slice sl_str (h X gd r _ e1) pl ph) fun s H Q q => ⟨q.1, fun v H1 s1 hv => kl s H1 _ (rv_mono s1 q.1) fun H2 s2 => kh s H2 _ (rv_mono (s1.trans s2) q.1) fun H3 s3 => ?_⟩
          exact ⟨z, str_of hv, sz hz, q.2 _ H3 (s1.trans (s2.trans s3)) (Dp.str _)⟩
        · cases k
      · cases k
    · cases k
  · cases k
def cutD (xs : List PyData) (lo hi : Option Int) : List PyData := (xs.drop (HT.sIx xs.length 0 lo)).take (HT.sIx xs.length xs.length hi - HT.sIx xs.length 0 lo)
theorem dpa_drop {K : PySem.W.Frag} {H : Hp} : ∀ (n : Nat) (ds : List PyData) (vs : List V), DpAll K H vs ds → DpAll K H (vs.drop n) (ds.drop n)
  | 0, _, _, h => h
  | n + 1, [], _, h => by cases h; exact .nil
  | n + 1, d :: ds, _, h => by
    cases h with
    | cons h1 h2 => exact dpa_drop n ds _ h2
theorem dpa_take {K : PySem.W.Frag} {H : Hp} : ∀ (n : Nat) (ds : List PyData) (vs : List V), DpAll K H vs ds → DpAll K H (vs.take n) (ds.take n)
  | 0, _, _, h => .nil
  | n + 1, [], _, h => by cases h; exact .nil
  | n + 1, d :: ds, _, h => by
    cases h with
    | cons h1 h2 => exact .cons h1 (dpa_take n ds _ h2)
def lSl (f : Rho → Option W) (fl fh : Rho → Option (Option Int)) : Rho → Option (List PyData) := fun r => match f r with
  | some (.d (.list z)) => match fl r with
    | some l => match fh r with
      | some h => some (cutD z l h)
      | none => none
    | none => none
  | _ => none
theorem ok_slL (h : OkE c e f) (hl : OkO c lo fl) (hh : OkO c hi fh) : OkL c (.Subscript e (.Slice lo hi none p2) pos) (lSl f fl fh) := fun X gd r w k => by
  unfold lSl at k
  split at k
  · rename_i z e1
    split at k
    · rename_i l e2
      split at k
      · rename_i u e3
        cases k
        obtain ⟨tl, pl, kl⟩ := hl X gd r l e2
        obtain ⟨th, ph, kh⟩ := hh X gd r u e3
        refine pe_imp (pe_slice sl_list (h X gd r _ e1) pl ph) fun s H Q q => ⟨q.1, fun v H1 s1 hv => kl s H1 _ (rv_mono s1 q.1) fun H2 s2 => kh s H2 _ (rv_mono (s1.trans s2) q.1) fun H3 s3 => ?_⟩
        have hv := rw_mono (w := .d (.list z)) (s2.trans s3) hv
        cases hv with
        | lst hs ha =>
          refine ⟨_, _, rfl, hs, fun p hp => ?_⟩
          have e5 := dpa_len _ _ ha
          refine q.2 p _ _ ((s1.trans (s2.trans s3)).free hp) ((s1.trans (s2.trans s3)).trans (same_new hp _)) upd_same ?_
          unfold cutV cutD
          rw [e5]
          exact dpa_mono (same_new hp _) _ _ (dpa_take _ _ _ (dpa_drop _ _ _ ha))
      · cases k
    · cases k
  · cases k
/-- s[::-1] -/
def revS (z : Str) : Str := ⟨((Builtin.Str.strSliceIndices none none (-1) z.length).filterMap (z.cps[·]?)).toArray⟩
def cRev (f : Rho → Option W) : Rho → Option W := fun r => match f r with
  | some (.d (.str z)) => if (revS z).length ≤ 100000 then some (.d (.str (revS z))) else none
  | _ => none
theorem pe_revS {X : Cx} {e : Expr} {te : TE} {k : Nat} {p1 p2 p3 pos : Pos} (he : PE X e te) : PE X (.Subscript e (.Slice none none (some (.UnaryOp .USub (.Constant (.int 1) k p1) p2)) p3) pos) (fun s H Q => te s H fun x H1 => ∃ z, x = .str z ∧ (revS z).length ≤ sizeLine ∧ Q (.str (revS z)) H1) := by
  refine ⟨fun pins s z H Q I h => ?_⟩
  refine PyProof.Rows.Subscript_ (thn (he.run pins s z H _ I h) fun v s1 ⟨x, H1, I1, r1, q1⟩ => ?_)
  obtain ⟨w, ex, hx, q⟩ := q1
  subst ex
  obtain ⟨t, rfl⟩ := r1
  have hst : PO X (some (.UnaryOp .USub (.Constant (.int 1) k p1) p2)) (tPart (tUn (rU fun i => .int (-i)) (tC (.int 1)))) := po_some (pe_un un_neg pe_int)
  refine wpAny_Slice (thn (po_none.run pins s1 z H1 (fun o H2 => o = none ∧ H2 = H1) I1 ⟨rfl, rfl⟩) fun vl s2 ⟨l, H2, I2, pl, el, e2⟩ => ?_)
  subst el e2
  refine thn (po_none.run pins s2 z H2 (fun o H3 => o = none ∧ H3 = H2) I2 ⟨rfl, rfl⟩) fun vu s3 ⟨u, H3, I3, pu, eu, e3⟩ => ?_
  subst eu e3
  refine thn (hst.run pins s3 z H3 (fun o H4 => o = some (-1) ∧ H4 = H3) I3 ⟨1, rfl, -1, rfl, rfl, rfl⟩) fun vs s4 ⟨o, H4, I4, ps, eo, e4⟩ => ?_
  subst eo e4
  have I5 : Inv X pins z H4 { s4 with heap := s4.heap.push { cls := .type "slice", data := .fields #[vl, vu, vs] } } := I4.kept (t' := s4.toks) fun b ob q => Heap.get?_push_of_some _ q
  obtain ⟨l', rfl, hl'⟩ := IsPart.raw pl
  obtain ⟨u', rfl, hu'⟩ := IsPart.raw pu
  obtain ⟨w', rfl, hw'⟩ := IsPart.raw ps
  show wpAny (model X.prog X.w) X.A (PyProof.Rows.subscriptTail e (.Slice none none (some (.UnaryOp .USub (.Constant (.int 1) k p1) p2)) p3) (.str w t) (.ref s4.heap.objs.size)) (EP X pins z Q) X.xe { s4 with heap := s4.heap.push { cls := .type "slice", data := .fields #[partValue l', partValue u', partValue w'] } }
  refine PyProof.Rows.tail_any (ops := [.str w t, .ref s4.heap.objs.size]) (typeIs_str _ _ _) (PySem.F.slot_str_getitem.lookup) ?_ (by with_unfolding_all rfl)
  refine wpAny_getItem_str_slice (l := l') (u := u') (st := w') (Heap.IsSliceOf.new _ _ _ _) (by rw [hw']; rfl) ?_
  unfold sliceMade slicePicked
  rw [hl', hu', hw']
  show Made.post (if ((-1 : Int) == 1 && (Builtin.Str.strSliceIndices none none (-1) w.length).length == w.length) = true then Made.val (.str w t) else Made.str (revS w)) (EP X pins z Q) _
  rw [if_neg (by simp)]
  exact ⟨hx, .str _, H4, I5.tok _, ⟨_, rfl⟩, q⟩
theorem ok_rev {k : Nat} {p1 p2 p3 : Pos} (h : OkE c e f) : OkE c (.Subscript e (.Slice none none (some (.UnaryOp .USub (.Constant (.int 1) k p1) p2)) p3) pos) (cRev f) := fun X gd r w kk => by
  unfold cRev at kk
  split at kk
  · rename_i z e1
    split at kk
    · rename_i hz
      cases kk
      exact pe_imp (pe_revS (h X gd r _ e1)) fun s H Q q => ⟨q.1, fun v H1 s1 hv => ⟨z, str_of hv, sz hz, q.2 _ H1 s1 (Dp.str _)⟩⟩
    · cases kk
  · cases kk
/-! ### own lists: append, extend, pop -/
variable {apos cpos : Pos}
def sApp (i : Nat) (f : Rho → Option W) : CS := fun r => match r[i]? with
  | some (some (.own xs)) => match f r with
    | some (.d d) => if imm d && decide (xs.length < 100000) then some (.nx (r.set i (some (.own (xs ++ [d]))))) else none
    | _ => none
  | _ => none
theorem okS_app (i : Nat) (hN : c.N[i]? = some x) (hv : Vis c.sc x) (he : OkE c e f) (hs : ∀ env, starEach [e] env = [(false, eval e env)] := by intro _; rfl)
    (hfew : ∀ env, ((backTo cpos (starEach [e] env)).all (fun x => !x.1) && (backToKw cpos (keywordEach [] env)).all (fun x => x.1.isSome) && decide ([e].length + ([] : List Keyword).length + (if ([] : List Keyword).isEmpty then 0 else 1) < 30)) = true := by intro _; rfl)
    (hline : (apos.endLine == cpos.line) = true := by rfl) (hd : (x == ("__debug__" : Str)) = false := by decide) (hcd : (x == ("__classdict__" : Str)) = false := by decide) :
    OkS c (.Expr (.Call (.Attribute (.Name x px) "append" apos) [e] [] cpos) pos) (sApp i f) := fun X gd hx r o k => by
  unfold sApp at k
  split at k
  · rename_i xs e1
    split at k
    · rename_i d e2
      split at k
      · rename_i hc
        have hc' : imm d = true ∧ xs.length < 100000 := by simpa using hc
        cases k
        refine ps_imp (ps_expr (pe_bm PySem.F.plainAttrs_list PySem.F.slot_list_append PySem.F.type_list_append mt_append (pe_var (i := i) (by rw [gd.hN]; exact hN) (by rw [gd.hsc]; exact hv) hd hcd) (pa_cons (he X gd r _ e2) pa_nil (hs X.env)) rfl (hfew X.env) hline (hs X.env) rfl) rfl) fun D s H ⟨gh, He, ⟨O, q1⟩, q2⟩ => ?_
        obtain ⟨a, vs, h1, h2, h3, h4⟩ := q1.ov i xs e1
        refine ⟨_, h1, .inl ⟨rfl, _, SqL.of h3⟩, q1.rv, fun v H1 s1 hv => ?_⟩
        have q3 := q1.step s1
        obtain ⟨a', vs', h1', h2', h3', h4'⟩ := q3.ov i xs e1
        rw [h1] at h1'
        cases h1'
        refine ⟨a, vs', v, rfl, rfl, h3', by rw [dpa_len _ _ h4']; exact Nat.lt_of_lt_of_le hc'.2 (by decide), ?_⟩
        exact q2 _ _ ⟨O, q3.mut e1 h1 h2 (dpa_app _ _ _ _ h4' (.cons (dp_tmono (mask_tsame fun a z => (q3.ow a z).2) d v hc'.1 hv) .nil))⟩
      · cases k
    · cases k
  · cases k
/-- y = xs.pop() -/
def sPop (j i : Nat) : CS := fun r => match r[i]? with
  | some (some (.own xs)) => match xs.getLast? with
    | some d => some (.nx ((r.set i (some (.own xs.dropLast))).set j (some (.w (.d d)))))
    | none => none
  | _ => none
theorem dpa_dropLast {K : PySem.W.Frag} {H : Hp} {ds : List PyData} {vs : List V} (h : DpAll K H vs ds) : DpAll K H vs.dropLast ds.dropLast := by
  rw [List.dropLast_eq_take, List.dropLast_eq_take, dpa_len _ _ h]
  exact dpa_take _ _ _ h
theorem okS_pop (j i : Nat) (hN : c.N[i]? = some x) (hv : Vis c.sc x) (hN2 : c.N[j]? = some y) (hl2 : Loc c.sc y) (hij : j ≠ i) (hline : (apos.endLine == cpos.line) = true := by rfl)
    (hf : c.fa = true ∨ c.sc.names.lookup y = some .local := by first | exact .inl rfl | exact .inr rfl) (hd : (x == ("__debug__" : Str)) = false := by decide) (hcd : (x == ("__classdict__" : Str)) = false := by decide) :
    OkS c (.Assign [.Name y py] (.Call (.Attribute (.Name x px) "pop" apos) [] [] cpos) pos) (sPop j i) := fun X gd hx r o k => by
  unfold sPop at k
  split at k
  · rename_i xs e1
    split at k
    · rename_i d e2
      cases k
      refine ps_imp (ps_set (i := j) (by rw [gd.hN]; exact gd.nd) (by rw [gd.hN]; exact hN2) (by rw [gd.hsc]; exact hl2) (pe_bm0 PySem.F.plainAttrs_list PySem.F.slot_list_pop PySem.F.type_list_pop mt_pop (pe_var (i := i) (by rw [gd.hN]; exact hN) (by rw [gd.hsc]; exact hv) hd hcd) rfl hline) rfl (gd.st hf)) fun D s H ⟨gh, He, ⟨O, q1⟩, q2⟩ => ?_
      obtain ⟨a, vs, h1, h2, h3, h4⟩ := q1.ov i xs e1
      have e3 : xs[xs.length - 1]? = some d := by rw [← List.getLast?_eq_getElem?]; exact e2
      obtain ⟨v, h5, h6⟩ := dpa_get _ _ _ _ h4 e3
      refine ⟨_, h1, .inl ⟨rfl, _, SqL.of h3⟩, a, vs, v, rfl, rfl, h3, by rw [dpa_len _ _ h4]; exact h5, ?_⟩
      have q3 := q1.mut e1 h1 h2 (dpa_dropLast h4)
      have em : mask (upd H a (.lst vs.dropLast)) O = mask H O := funext fun b => by
        by_cases q : O b
        · rw [mask_in q, mask_in q]
        · rw [mask_out q, mask_out q, upd_ne (fun z => q (by rw [z]; exact h2))]
      exact q2 _ _ ⟨O, q3.set (w := .d d) (by rw [em]; exact h6) j⟩
    · cases k
  · cases k
/-! ### enumerate(text) -/
def Itn (x : Str) : It :=
  ⟨fun i _ => i < x.cps.size, fun i H v H' => ∃ T n, v = .ref T ∧ H T = none ∧ x.cps[i]? = some n ∧ H' = upd H T (.tup [.int (i : Nat), .str ⟨#[n]⟩]), fun i _ => i = x.cps.size⟩
theorem turn_enumS {P : Program} {w : World} {K : PySem.W.Frag} {elts : List Expr} {kk : Nat} {tpos : Pos} (z : Str) (t : Tok) (e it : Addr) :
    Turn P w K (.Tuple elts kk tpos) (Itn z) [e, it] e (fun i h => (∃ old, IsEnum h e it ((i : Nat) : Int) old) ∧ h.IsStrIter it (strIterType z) z t i ∧ e ≠ it) where
  mem := by simp
  obj := fun i h st b hb => by
    obtain ⟨⟨old, he⟩, ⟨o, ho, hc, hd⟩, _⟩ := st
    have e' : b = e ∨ b = it := by simpa using hb
    rcases e' with z | z
    · rw [z]; exact ⟨_, he, fun v q => nomatch q⟩
    · rw [z]; exact ⟨o, ho, fun v q => by rw [hd] at q; cases q⟩
  keep := fun i h h' st k => let ⟨⟨old, he⟩, ⟨o, ho, hc, hd⟩, hne⟩ := st; ⟨⟨old, k e (by simp) _ he⟩, ⟨o, k it (by simp) _ ho, hc, hd⟩, hne⟩
  item := by
    intro X hP hw hK hc i pins s y H E I hf st hg
    subst hP hw hK
    obtain ⟨⟨old, he⟩, hit, hne⟩ := st
    have hel : e < s.heap.objs.size := Heap.lt_size he
    have hil : it < s.heap.objs.size := by obtain ⟨_, q, _⟩ := hit; exact Heap.lt_size q
    have D := Draws.text (prog := X.prog) (w := X.w) (A := X.A.in1) (I.ok.hd hc) it z t
    refine wpAny_pyNext_enum_itemD D he hit hg hne (by simpa using hne) fun x h' tk hPx ho hit' hT hsz hk => ?_
    obtain ⟨n, u, hn, rfl⟩ := hPx
    refine ⟨_, rfl, wpAny_letOwnedTupleGo_enum (s := { s with heap := h', toks := tk + 1 }) ho fun h'' he' sb => ?_⟩
    have hT2 : h''.get? s.heap.objs.size = some { cls := .type "tuple", data := .seq #[.int i tk, .str ⟨#[n]⟩ u] } := (sb.2 _ (Nat.ne_of_gt hel)).trans hT
    have new : ObjOk X.prog X.w (upd H s.heap.objs.size (.tup [.int (i : Nat), .str ⟨#[n]⟩])) h'' s.heap.objs.size (.tup [.int (i : Nat), .str ⟨#[n]⟩]) :=
      ⟨by show 2 ≤ sizeLine; decide, [.int i tk, .str ⟨#[n]⟩ u], .cons ⟨_, rfl⟩ (.cons ⟨_, rfl⟩ .nil), ⟨_, hT2, rfl, _, rfl⟩⟩
    have I1 : Inv X pins y (upd H s.heap.objs.size (.tup [.int (i : Nat), .str ⟨#[n]⟩])) { s with heap := h'', toks := tk + 1 } :=
      I.turnedNew (ch := [e, it]) (fun b ob hb q => (sb.2 b (fun z => hb (by simp [z]))).trans (hk b ob (fun z => hb (by simp [z])) (fun z => hb (by simp [z])) q)) hf (Nat.le_refl _) new
    refine ⟨.ref s.heap.objs.size, _, I1, rfl, ⟨_, n, rfl, I.hok.fresh (Nat.le_refl _), hn, rfl⟩, ⟨⟨.str ⟨#[n]⟩ u, ?_⟩, ?_, hne⟩, fun b hb => ?_⟩
    · have e1 : ((i + 1 : Nat) : Int) = (i : Int) + 1 := by omega
      rw [e1]; exact he'
    · obtain ⟨o, ho2, hc2, hd2⟩ := hit'
      exact ⟨o, (sb.2 it (Ne.symm hne)).trans ho2, hc2, hd2⟩
    · have hb' : b < s.heap.objs.size := by
        have e' : b = e ∨ b = it := by simpa using hb
        rcases e' with z | z
        · rw [z]; exact hel
        · rw [z]; exact hil
      rw [upd_ne (Nat.ne_of_lt hb')]
      exact (hf b hb).1
  done := by
    intro X hP hw hK hc i pins s y H E I hf st hg
    subst hP hw hK
    obtain ⟨⟨old, he⟩, hit, hne⟩ := st
    obtain ⟨f0, f1, f2, f3, f4, f5⟩ := hf it (by simp)
    have D := Draws.text (prog := X.prog) (w := X.w) (A := X.A.in1) (I.ok.hd hc) it z t
    have hg : i = z.cps.size := hg
    subst hg
    exact wpAny_pyNext_enum_endD D he hit fun h' eb => ⟨rfl, I.turned (t' := s.toks) (fun b o hb q => eb b o hb q) f0 f1 f3 f4 f5⟩
  self := fun A i s Q E st h => let ⟨⟨_, he⟩, _⟩ := st; wpAny_pyIter_enum he h
def iEnumS (ta : TA) : TI := fun s H R => ta s H fun vs H1 => ∃ z, vs = [.str z] ∧ R (Itn z) H1
theorem pi_enumS {X : Cx} {e : Expr} {ta : TA} {p pos tpos : Pos} {elts : List Expr} {kk : Nat} (hg : Gl X "enumerate") (hm : X.mg "enumerate" = none) (ha : PA X [e] ta) (hs : starEach [e] X.env = [(false, eval e X.env)]) :
    PI X (.Tuple elts kk tpos) (.Call (.Name "enumerate" p) [e] [] pos) (iEnumS ta) := by
  refine ⟨fun pins s y H R I h => ?_⟩
  refine PyProof.Rows.Call_ (ld_blt I hg hm PyProof.Rows.boot_enumerate (PyProof.Rows.callWith_type1 (thn (ha.run pos pins s y H _ I h) fun us s1 ⟨vs, H1, I1, r1, q1⟩ => ?_) hs rfl))
  obtain ⟨z, ex, q⟩ := q1
  subst ex
  cases r1 with
  | cons r rr =>
    cases rr
    obtain ⟨t, rfl⟩ := r
    refine call_enumerate_str fun h' he hit hsz hk => wpAny_pyIter_enum he ?_
    have I2 : Inv X pins y H1 { s1 with heap := h' } := I1.kept (t' := s1.toks) hk
    refine ⟨s1.heap.objs.size + 1, [s1.heap.objs.size + 1, s1.heap.objs.size], _, _, H1, rfl, I2, turn_enumS z t (s1.heap.objs.size + 1) s1.heap.objs.size, ⟨⟨.none, he⟩, hit, Nat.succ_ne_self _⟩, fun b hb => ?_, q⟩
    have e' : b = s1.heap.objs.size + 1 ∨ b = s1.heap.objs.size := by simpa using hb
    have hle : s1.heap.objs.size ≤ b := by
      rcases e' with z | z
      · rw [z]; exact Nat.le_add_right _ _
      · rw [z]; exact Nat.le_refl _
    exact I1.fpOk hle (I1.hok.fresh hle)
def enS : Int → List Nat → List PyData
  | _, [] => []
  | n, d :: r => .tuple [.int n, .str ⟨#[d]⟩] :: enS (n + 1) r
def itE (f : Rho → Option W) : Rho → Option (List PyData) := fun r => match f r with
  | some (.d (.str z)) => some (enS 0 z.cps.toList)
  | _ => none
theorem enS_len : ∀ (n : Int) (l : List Nat), (enS n l).length = l.length
  | _, [] => rfl
  | n, d :: r => by show (enS (n + 1) r).length + 1 = r.length + 1; rw [enS_len (n + 1) r]
theorem enS_get : ∀ (n : Int) (l : List Nat) (i : Nat), (enS n l)[i]? = (l[i]?).map fun d => .tuple [.int (n + i), .str ⟨#[d]⟩]
  | _, [], i => by simp [enS]
  | n, d :: r, 0 => by simp [enS]
  | n, d :: r, i + 1 => by
    show (enS (n + 1) r)[i]? = _
    rw [enS_get (n + 1) r i]
    have e : n + 1 + (i : Int) = n + ((i + 1 : Nat) : Int) := by omega
    rw [e]
    rfl
theorem okI_enum {elts : List Expr} {kk : Nat} {tpos : Pos} (hb : ("enumerate" : Str) ∈ c.T.bl) (hk : c.sc.names.lookup ("enumerate" : Str) = some .globalImplicit) (he : OkE c e f) (hs : ∀ env, starEach [e] env = [(false, eval e env)] := by intro _; rfl) :
    OkIt c (.Tuple elts kk tpos) (.Call (.Name "enumerate" p) [e] [] pos) (itE f) := fun X gd r ds k => by
  unfold itE at k
  split at k
  · rename_i z e1
    cases k
    refine ⟨_, pi_enumS ((gd.kind _).trans hk) (gd.tab.bl _ hb) (pa_cons (he X gd r _ e1) pa_nil (hs X.env)) (hs X.env), fun gh He s H q1 R kk => ⟨q1.rv, fun v H1 s1 hv => ?_⟩⟩
    obtain rfl := str_of hv
    refine ⟨z, rfl, kk (Itn z) H1 (fun _ => True) trueMono s1 (q1.step s1).ghostT ?_⟩
    refine ⟨fun i H O g hi => ?_, fun i H O x H' d hO g hd hy => ?_, fun H O g => ?_⟩
    · rw [enS_len] at hi
      have hi' : i < z.cps.size := by simpa using hi
      exact hi'
    · obtain ⟨T, n, rfl, hT, hn, rfl⟩ := hy
      refine ⟨same_new hT _, ?_⟩
      rw [enS_get] at hd
      have e3 : z.cps.toList[i]? = some n := by rw [Array.getElem?_toList]; exact hn
      rw [e3] at hd
      have nO : ¬ O T := fun z => hO T z hT
      cases hd
      refine Dp.tup (xs := [.int (i : Nat), .str ⟨#[n]⟩]) (SqT.of (by rw [mask_out nO]; exact upd_same)) (.cons ?_ (.cons (Dp.str _) .nil))
      have e4 : (0 : Int) + (i : Int) = (i : Int) := by omega
      rw [e4]
      exact Dp.int _
    · rw [enS_len]
      show z.cps.toList.length = z.cps.size
      simp
  · cases k
/-! ### a, b = x, y -/
theorem okS_par2 {k1 k2} {p1 p2 : Pos} (i j : Nat) (hN : c.N[i]? = some x) (hl : c.sc.names.lookup x = some .local) (hN2 : c.N[j]? = some y) (hl2 : c.sc.names.lookup y = some .local) (hij : i ≠ j) (ha : OkE c a fa) (hb : OkE c b fb)
    (hw : ∀ env : Env, env.scope = c.sc → swappedStores [.Tuple [.Name x px, .Name y py] k1 p1] (.Tuple [a, b] k2 p2) env = pure (some [x, y]) := by intro env h; cases env; simp only at h; subst h; rfl)
    (hs : ∀ env, starEach [a, b] env = (false, eval a env) :: starEach [b] env := by intro _; rfl) (hs2 : ∀ env, starEach [b] env = [(false, eval b env)] := by intro _; rfl) :
    OkS c (.Assign [.Tuple [.Name x px, .Name y py] k1 p1] (.Tuple [a, b] k2 p2) pos) (sPar i j fa fb) :=
  okS_par i j hN (.inl hl) hN2 (.inl hl2) hij ha hb (fun X gd ta hA => ps_par gd.calm (by rw [gd.hN]; exact gd.nd) (by rw [gd.hN]; exact hN) (by rw [gd.hN]; exact hN2) hij (by rw [gd.hsc]; exact hl) (by rw [gd.hsc]; exact hl2) hA (hw X.env gd.hsc) rfl) hs hs2
/-- a, b = xs.pop(), xs.pop() -/
def sPop2 (j m i : Nat) : CS := fun r => match r[i]? with
  | some (some (.own xs)) => match xs.getLast? with
    | some d => match xs.dropLast.getLast? with
      | some e => some (.nx (((r.set i (some (.own xs.dropLast.dropLast))).set j (some (.w (.d d)))).set m (some (.w (.d e)))))
      | none => none
    | none => none
  | _ => none
theorem okS_pop2 {z : Str} {k1 k2} {p1 p2 q1 a1 c1 q2 a2 c2 : Pos} (j m i : Nat) (hN : c.N[i]? = some z) (hv : Vis c.sc z) (hNj : c.N[j]? = some x) (hl : c.sc.names.lookup x = some .local) (hNm : c.N[m]? = some y) (hl2 : c.sc.names.lookup y = some .local) (hjm : j ≠ m)
    (hw : ∀ env : Env, env.scope = c.sc → swappedStores [.Tuple [.Name x px, .Name y py] k1 p1] (.Tuple [.Call (.Attribute (.Name z q1) "pop" a1) [] [] c1, .Call (.Attribute (.Name z q2) "pop" a2) [] [] c2] k2 p2) env = pure (some [x, y]) := by intro env h; cases env; simp only at h; subst h; rfl)
    (hline1 : (a1.endLine == c1.line) = true := by rfl) (hline2 : (a2.endLine == c2.line) = true := by rfl)
    (hd : (z == ("__debug__" : Str)) = false := by decide) (hcd : (z == ("__classdict__" : Str)) = false := by decide) :
    OkS c (.Assign [.Tuple [.Name x px, .Name y py] k1 p1] (.Tuple [.Call (.Attribute (.Name z q1) "pop" a1) [] [] c1, .Call (.Attribute (.Name z q2) "pop" a2) [] [] c2] k2 p2) pos) (sPop2 j m i) := fun X gd hx r o k => by
  unfold sPop2 at k
  split at k
  · rename_i xs e1
    split at k
    · rename_i d e2
      split at k
      · rename_i e e3
        cases k
        have hA : PA X [.Call (.Attribute (.Name z q1) "pop" a1) [] [] c1, .Call (.Attribute (.Name z q2) "pop" a2) [] [] c2] _ :=
          pa_cons (pe_bm0 PySem.F.plainAttrs_list PySem.F.slot_list_pop PySem.F.type_list_pop mt_pop (pe_var (i := i) (by rw [gd.hN]; exact hN) (by rw [gd.hsc]; exact hv) hd hcd) rfl hline1)
            (pa_cons (pe_bm0 PySem.F.plainAttrs_list PySem.F.slot_list_pop PySem.F.type_list_pop mt_pop (pe_var (i := i) (by rw [gd.hN]; exact hN) (by rw [gd.hsc]; exact hv) hd hcd) rfl hline2) pa_nil)
        refine ps_imp (ps_par (i := j) (j := m) gd.calm (by rw [gd.hN]; exact gd.nd) (by rw [gd.hN]; exact hNj) (by rw [gd.hN]; exact hNm) hjm (by rw [gd.hsc]; exact hl) (by rw [gd.hsc]; exact hl2) hA (hw X.env gd.hsc) rfl) fun D s H ⟨gh, He, ⟨O, q1⟩, q2⟩ => ?_
        obtain ⟨a, vs, h1, h2, h3, h4⟩ := q1.ov i xs e1
        have e5 : xs[xs.length - 1]? = some d := by rw [← List.getLast?_eq_getElem?]; exact e2
        have e6 : xs.dropLast[xs.dropLast.length - 1]? = some e := by rw [← List.getLast?_eq_getElem?]; exact e3
        obtain ⟨v, h5, h6⟩ := dpa_get _ _ _ _ h4 e5
        have h4' := dpa_dropLast h4
        obtain ⟨u, h7, h8⟩ := dpa_get _ _ _ _ h4' e6
        have q3 := q1.mut e1 h1 h2 (dpa_dropLast h4')
        have em : mask (upd H a (.lst vs.dropLast.dropLast)) O = mask H O := funext fun b => by
          by_cases q : O b
          · rw [mask_in q, mask_in q]
          · rw [mask_out q, mask_out q, upd_ne (fun z => q (by rw [z]; exact h2))]
        have q4 : RSO c.T X.K X.mg gh He O (upd (upd H a (.lst vs.dropLast)) a (.lst vs.dropLast.dropLast)) s (r.set i (some (.own xs.dropLast.dropLast))) := by rw [upd_upd]; exact q3
        refine ⟨_, h1, .inl ⟨rfl, _, SqL.of h3⟩, a, vs, v, rfl, rfl, h3, by rw [dpa_len _ _ h4]; exact h5, ?_⟩
        refine ⟨_, h1, .inl ⟨rfl, _, SqL.of upd_same⟩, a, vs.dropLast, u, rfl, rfl, upd_same, by rw [dpa_len _ _ h4']; exact h7, ?_⟩
        refine ⟨v, u, rfl, q2 _ _ ⟨O, (q4.set (w := .d d) ?_ j).set (w := .d e) ?_ m⟩⟩
        · rw [upd_upd, em]; exact h6
        · rw [upd_upd, em]; exact h8
      · cases k
    · cases k
  · cases k
end
/-! ### a def -/
/-- the environment at the entry -/
def rho0 (N : List Str) (args : List W) : Rho := args.map (fun w => some (.w w)) ++ List.replicate (N.length - args.length) none
def runD (N : List Str) (n : Nat) (g : CS) (args : List W) : Option Res := if args.length = n then match g (rho0 N args) with
    | some (.rt z) => some z
    | some (.nx _) => some (.w (.d .none))
    | _ => none
  else none
theorem rwa_get {T : Tab} {K : PySem.W.Frag} {mg : Str → Option Value} {H : Hp} : ∀ {vs : List V} {ws : List W} (i : Nat) (w : W), RwAll T K mg H vs ws → ws[i]? = some w → ∃ v, vs[i]? = some v ∧ Rw T K mg H v w
  | _, _, i, w, .nil, e => by simp at e
  | _, _, 0, w, .cons h t, e => by simp at e; subst e; exact ⟨_, rfl, h⟩
  | _, _, i + 1, w, .cons h t, e => by
    obtain ⟨v, h1, h2⟩ := rwa_get i w t (by simpa using e)
    exact ⟨v, by simpa using h1, h2⟩
theorem rs_start {T : Tab} {K : PySem.W.Frag} {mg : Str → Option Value} {H : Hp} {N : List Str} {vs : List V} {ws : List W} (h : RwAll T K mg H vs ws) (tb : TbOk T K mg H) : RS T K mg (fun _ => True) H H (L2.start N vs) (rho0 N ws) := by
  have hl := rwa_len h
  have key : ∀ (i : Nat) (o : Sl), (rho0 N ws)[i]? = some (some o) → ∃ w, ws[i]? = some w ∧ o = .w w := fun i o e => by
    unfold rho0 at e
    rw [List.getElem?_append] at e
    split at e
    · rw [List.getElem?_map] at e
      cases q : ws[i]? with
      | none => rw [q] at e; cases e
      | some w => rw [q] at e; cases e; exact ⟨w, rfl, rfl⟩
    · rw [List.getElem?_replicate] at e
      split at e <;> cases e
  refine ⟨fun _ => False, ?_, Same.refl H, fun a z => z.elim, fun i x e => ?_, fun i xs e => ?_, fun i j xs ys a e => ?_, trueMono, trivial, tb⟩
  · unfold L2.start rho0
    rw [List.length_append, List.length_append, List.length_map, List.length_map, List.length_replicate, List.length_replicate, hl]
  · obtain ⟨w, h1, h2⟩ := key i _ e
    cases h2
    obtain ⟨v, h3, h4⟩ := rwa_get i _ h h1
    refine ⟨v, ?_, by rw [mask_no]; exact h4⟩
    unfold L2.start
    have hi : i < vs.length := (List.getElem?_eq_some_iff.mp h3).1
    rw [List.getElem?_append_left (by simpa using hi), List.getElem?_map, h3]
    rfl
  · obtain ⟨w, h1, h2⟩ := key i _ e
    cases h2
    intro z; cases z
  · obtain ⟨w, h1, h2⟩ := key i _ e
    cases h2
    intro _ z; cases z
/-- what raises nothing -/
theorem fnok_cx {P : Program} {w : World} {K : PySem.W.Frag} {mg : Str → Option Value} {base : Heap} {k : Nat} {f : Addr} {fd : FuncData} {ps : List Str} {sp : Sp} (CX : CXT) (h : FnOk P w K mg base CX0 k f fd ps sp) : FnOk P w K mg base CX k f fd ps sp :=
  ⟨h.len, fun A outer s H args us vs Q E hr e0 hb hv hs => codeAny_mono (h.run A outer s H args us vs Q E hr e0 hb hv hs) fun r z hz => by
    cases r with
    | error e => exact False.elim hz
    | ok fl => cases fl <;> exact hz⟩
/-- a def keeps its mirror -/
theorem def_ok {T : Tab} {P : Program} {w : World} {K : PySem.W.Frag} {mg : Str → Option Value} {base : Heap} {F : Fs} {k : Nat} {x qual : Str} {st : Stmt} {f : Addr} {fd : FuncData} {N ps : List Str} {g : CS} {args : List W} {r : Res}
    (FN : Fun K x qual st f fd) (S : FnScope N ps (defScope st)) (tab : TabOk T K mg w) (cal : ∀ i args r, F i args = some r → Calb T P w K mg base k i args r)
    (clo : CloAll T P w K mg base) (hlw : LwOk T K mg qual f) (h : OkSs ⟨T, N, F, k, defScope st, true, false, qual⟩ (defBody st) g) (e : runD N ps.length g args = some r) : FnOk P w K mg base CX0 (k + 1) f fd ps (spR T K mg args r) := by
  unfold runD at e
  split at e
  · rename_i hn
    refine fun_okC FN S (fun vs H Q E q => by rw [rwa_len q.1, hn]) (fun cdv A outer s H vs Q E hcd hr q => ?_)
    have gd : Gd ⟨T, N, F, k, defScope st, true, false, qual⟩ (cxOf CX0 P w K mg base N qual (defScope st) f cdv A outer s H E).nox := ⟨rfl, rfl, rfl, hr, S.nd, tab, cal, clo, fun _ _ => rfl, S.kind, fun z => (by cases z), fun _ => ⟨rfl, rfl, rfl⟩, fun _ => lw_of FN hlw hcd⟩
    obtain ⟨q1, qt, q2⟩ := q
    have q3 := rs_start (N := N) q1 qt
    split at e
    · rename_i z e1
      cases e
      refine ⟨_, (h _ gd rfl _ _ e1).nox, fun _ => True, H, q3, ?_⟩
      cases r with
      | w x => exact q2
      | fl xs => exact fun p vs H' hp s1 h1 hd => q2 p vs H' hp s1 h1 hd
      | pc _ _ => trivial
      | ex _ => trivial
    · rename_i r' e1
      cases e
      exact ⟨_, (h _ gd rfl _ _ e1).nox, fun _ => True, H, q3, fun s H' q4 => q2 .non H' q4.ex Dp.non⟩
    · cases e
  · cases e
end Nm
namespace Nm
open PySem L2
section
variable {c : C0} {pos : Pos} {a b e o : Expr} {fa fb f : Rho → Option W} {x y : Str} {px py p apos : Pos} {i j : Nat} {es : List Expr} {fs : Rho → Option (List W)}
/-! ### instances -/
/-- e.f -/
def cAtt (T : Tab) (cf : Str) (f : Rho → Option W) : Rho → Option W := fun r => match f r with
  | some (.o k ds) => if k < T.nc then match ((T.cf k).zip ds).lookup cf with
      | some d => some (.d d)
      | none => none
    else none
  | _ => none
theorem zip_look {K : PySem.W.Frag} {H : Hp} {n : Str} {d : PyData} : ∀ (ns : List Str) (ds : List PyData) (vs : List V), DpAll K H vs ds → (ns.zip ds).lookup n = some d → ∃ v, (ns.zip vs).lookup n = some v ∧ Dp K H v d ∧ n ∈ ns
  | [], _, _, _, e => by simp at e
  | m :: ns, [], _, h, e => by simp at e
  | m :: ns, z :: ds, _, h, e => by
    cases h with
    | cons h1 h2 =>
      rename_i v vs
      rw [List.zip_cons_cons, List.lookup_cons] at e ⊢
      cases q : (n == m) with
      | true =>
        rw [q] at e
        cases e
        exact ⟨v, rfl, h1, by rw [beq_iff_eq.mp q]; exact List.mem_cons_self⟩
      | false =>
        rw [q] at e
        obtain ⟨u, h3, h4, h5⟩ := zip_look ns ds vs h2 e
        exact ⟨u, h3, h4, List.mem_cons_of_mem _ h5⟩
theorem ok_att (cf : Str) (he : OkE c e f) (hb : ∀ env, attributeBase e cf env (eval e env) = eval e env := by intro _; rfl) : OkE c (.Attribute e cf pos) (cAtt c.T cf f) := fun X gd r w k => by
  unfold cAtt at k
  split at k
  · rename_i n ds e1
    split at k
    · rename_i hn
      split at k
      · rename_i d e2
        cases k
        obtain ⟨C, h1, h2, h3, h4, h5⟩ := (gd.clo.cl n hn).ex
        refine pe_imp (pe_fld (he X gd r _ e1) (hb X.env)) fun s H Q q => ⟨q.1, fun v H1 s1 hv => ?_⟩
        obtain ⟨ad, C', dx, vs, rfl, g1, g2, g3, g4⟩ := hv
        rw [h1] at g1
        cases g1
        obtain ⟨v, l1, l2, l3⟩ := zip_look _ _ _ g4 e2
        exact ⟨ad, C, dx, _, v, rfl, g2, h2, h3 cf l3, l1, q.2 v H1 s1 l2⟩
      · cases k
    · cases k
  · cases k
def wAtt (T : Tab) (cf : Str) : W → Option W
  | .o k ds => if k < T.nc then match ((T.cf k).zip ds).lookup cf with
      | some d => some (.d d)
      | none => none
    else none
  | _ => none
theorem cAtt_eq (T : Tab) (cf : Str) (f : Rho → Option W) (r : Rho) : cAtt T cf f r = match f r with
  | some x => wAtt T cf x
  | none => none := by
  unfold cAtt
  cases f r with
  | none => rfl
  | some x => cases x <;> rfl
/-- C(e, ..) -/
def cMake (T : Tab) (k n : Nat) (f : Rho → Option (List W)) : Rho → Option W := fun r => match f r with
  | some ws => match wDs ws with
    | some ds => if 2 ≤ k ∧ n < T.nc ∧ ds.length = (T.cf n).length ∧ T.cf n ≠ [] then some (.o n ds) else none
    | none => none
  | none => none
def wMake (T : Tab) (k n : Nat) (ws : List W) : Option W := match wDs ws with
    | some ds => if 2 ≤ k ∧ n < T.nc ∧ ds.length = (T.cf n).length ∧ T.cf n ≠ [] then some (.o n ds) else none
    | none => none
theorem cMake_eq (T : Tab) (k n : Nat) (f : Rho → Option (List W)) (r : Rho) : cMake T k n f r = match f r with
  | some ws => wMake T k n ws
  | none => none := rfl
theorem ok_make (n : Nat) (hx : c.T.cn n = x) (hk : c.sc.names.lookup x = some .globalImplicit) (ha : OkA c (e :: es) fs) (hd : (x == ("__debug__" : Str)) = false := by decide)
    (he : ∀ env, starEach (e :: es) env = (false, eval e env) :: starEach es env := by intro _; rfl) (hpl : ∀ env, (backTo pos (starEach es env)).any (·.1) = false := by intro _; rfl) :
    OkE c (.Call (.Name x p) (e :: es) [] pos) (cMake c.T c.k n fs) := fun X gd r w k => by
  unfold cMake at k
  split at k
  · rename_i ws e1
    split at k
    · rename_i ds e2
      split at k
      · rename_i hc
        obtain ⟨k2, hn, hl, hne⟩ := hc
        cases k
        obtain ⟨C, h1, h2, h3, h4, _, _, h5⟩ := (gd.clo.cl n hn).ex
        obtain ⟨fI, fd, ps, m1, m2, m3, m4⟩ := h5 hne
        rw [hx] at h1
        refine pe_imp (pe_make m1 m4 (gd.room.mono k2) ((gd.kind x).trans hk) h1 m2 .nil pass0 (ha X gd r ws e1) hd (he _) (hpl _)) fun s H Q q => ⟨q.1, fun vs H1 s1 hv => ?_⟩
        intro z dx hz hdx hne2
        show spInit C (c.T.cf n) (.ref z :: (vs ++ [])) _ _ _
        rw [List.append_nil]
        have hD := wDs_all e2 hv
        have hlen : vs.length = (c.T.cf n).length := by rw [dpa_len _ _ hD]; exact hl
        refine ⟨z, dx, vs, rfl, hlen, upd_same, rfl, ?_⟩
        have sm : Same H1 (upd (upd (upd H1 dx (.own z)) z (.ins C dx [])) z (.ins C dx ((c.T.cf n).zip vs))) := by
          rw [upd_upd]
          exact (same_new hdx _).trans (same_new (by rw [upd_ne (Ne.symm hne2)]; exact hz) _)
        refine q.2 _ _ (s1.trans sm) ⟨z, C, dx, vs, rfl, by rw [hx]; exact h1, upd_same, hlen, dpa_mono sm _ _ hD⟩
      · cases k
    · cases k
  · cases k
/-- o.m(e, ..): i the method's number -/
def cMeth (F : Fs) (i n : Nat) (f : Rho → Option W) (g : Rho → Option (List W)) : Rho → Option W := fun r => match f r with
  | some (.o k ds) => if k = n then match g r with
      | some ws => match F i (.o k ds :: ws) with
        | some z => z.val
        | none => none
      | none => none
    else none
  | _ => none
/-- what a value-giving call promises -/
def spM (T : Tab) (K : PySem.W.Frag) (mg : Str → Option Value) (z : Res) (H : Hp) (Q : VK) : Prop := match z with
  | .w x => ∀ v H', Same H H' → Rw T K mg H' v x → Q v H'
  | .fl xs => ∀ p vs' H', H p = none → Same H H' → H' p = some (.lst vs') → DpAll K H' vs' xs → Q (.ref p) H'
  | _ => False
theorem look_none : ∀ (ns : List Str) (vs : List V) (m : Str), m ∉ ns → (ns.zip vs).lookup m = none
  | [], _, _, _ => by simp
  | n :: ns, [], _, _ => by simp
  | n :: ns, v :: vs, m, h => by
    rw [List.zip_cons_cons, List.lookup_cons]
    have q : (m == n) = false := beq_eq_false_iff_ne.mpr fun z => h (by rw [z]; exact List.mem_cons_self)
    rw [q]
    exact look_none ns vs m fun z => h (List.mem_cons_of_mem _ z)
theorem ok_meth {pl : Env → Sem Bool} (i n : Nat) (m : Str) (hm : c.T.mo i = some (n, m)) (hn : n < c.T.nc) (hnf : m ∉ c.T.cf n) (ho : OkE c o f) (ha : OkA c (e :: es) fs)
    (he : ∀ env, starEach (e :: es) env = (false, eval e env) :: starEach es env := by intro _; rfl) (hpl : ∀ env, (backTo pos (starEach es env)).any (·.1) = false := by intro _; rfl)
    (ht : ∀ env, eval (.Call (.Attribute o m apos) (e :: es) [] pos) env = (do
      let ov ← eval o env
      standAt apos.atName
      let (f, first) ← holding [ov] (getMethod ov m (pl env))
      callWith pos f first (backTo pos (starEach (e :: es) env)) (backToKw pos (keywordEach [] env))) := by intro _; rfl) (hlm : c.T.lm i = none := by rfl) :
    OkE c (.Call (.Attribute o m apos) (e :: es) [] pos) (cMeth c.F i n f fs) := fun X gd r w k => by
  unfold cMeth at k
  split at k
  · rename_i kk ds e1
    split at k
    · rename_i hk
      subst hk
      split at k
      · rename_i ws e2
        split at k
        · rename_i z e3
          have key : cxr X.prog X.w z = CX0 ∧ (∀ (Q : VK) (H : Hp), (∀ v H', Same H H' → Rw c.T X.K X.mg H' v w → Q v H') → spM c.T X.K X.mg z H Q) := by
            cases z with
            | w x => cases k; exact ⟨rfl, fun Q H q => q⟩
            | fl xs => cases k; exact ⟨rfl, fun Q H q p vs' H3 hp s3 h3 hd3 => q _ H3 s3 (Dp.lst (SqL.of h3) hd3)⟩
            | pc _ _ => cases k
            | ex _ => cases k
          obtain ⟨f, fd, h3, h4, _, h5⟩ := (gd.cal i _ z e3).ex hlm
          rw [key.1] at h4
          obtain ⟨C, g1, g2⟩ := h5 kk m hm
          obtain ⟨C', h1, h2, _⟩ := (gd.clo.cl kk hn).ex
          rw [g1] at h1
          cases h1
          refine pe_imp (pe_meth (pl := pl X.env) (ho X gd r _ e1) h2 g2 h4 gd.room h3 .nil pass0 (ha X gd r ws e2) (he _) (hpl _) (ht _)) fun s H Q q => ⟨q.1, fun v H1 s1 hv => ?_⟩
          have hv0 := hv
          obtain ⟨ad, C', dx, vs, rfl, g1', g2', g3, g4⟩ := hv
          rw [g1] at g1'
          cases g1'
          refine ⟨ad, dx, _, rfl, g2', look_none _ _ _ hnf, rv_mono s1 q.1, fun vs2 H2 s2 hv2 => ?_⟩
          show spR c.T X.K X.mg (.o kk ds :: ws) z (.ref ad :: (vs2 ++ [])) H2 Q E0
          rw [List.append_nil]
          refine ⟨.cons (rw_mono s2 hv0) hv2, tb_mono (s1.trans s2) q.1.2.2, ?_⟩
          have kq := key.2 Q H2 fun v H3 s3 hv3 => q.2 v H3 (s1.trans (s2.trans s3)) hv3
          cases z with
          | w x => exact kq
          | fl xs => exact kq
          | pc _ _ => exact kq.elim
          | ex _ => exact kq.elim
        · cases k
      · cases k
    · cases k
  · cases k
/-- isinstance(x, C), x an instance -/
def wIsiC (T : Tab) (n : Nat) : W → Option W
  | .o k _ => if k < T.nc then some (.d (.bool (T.sub k n))) else none
  | _ => none
theorem ok_isiC {p2 : Pos} (n : Nat) (hy : c.T.cn n = y) (hb : ("isinstance" : Str) ∈ c.T.bl) (hk : c.sc.names.lookup ("isinstance" : Str) = some .globalImplicit) (hk2 : c.sc.names.lookup y = some .globalImplicit)
    (ha : OkE c e f) (hs : ∀ env (e2 : Expr), starEach (e :: [Expr.Name y p2]) env = (false, eval e env) :: [(false, eval (Expr.Name y p2) env)] := by intro _ _; rfl)
    (hnc : n < c.T.nc) (hts : n ∈ c.T.ts) (hd : (y == ("__debug__" : Str)) = false := by decide) :
    OkE c (.Call (.Name "isinstance" p) [e, .Name y p2] [] pos) (cOp1 (wIsiC c.T n) f) := fun X gd r w h => by
  obtain ⟨x, e1, e2⟩ := cOp1_some h
  obtain ⟨D, hD, _⟩ := (gd.clo.cl n hnc).ex
  have hD0 := hD
  rw [hy] at hD
  have hn : PE X (.Name y p2) (tC (.ref D)) := pe_glob ((gd.kind _).trans hk2) hD rfl hd
  refine pe_imp (pe_callB call_isi ((gd.kind _).trans hk) (gd.tab.bl _ hb) boot_isi (pa_cons (ha X gd r x e1) (pa_cons hn pa_nil) (hs X.env e)) (he := hs X.env e)) fun s H Q q => ⟨q.1, fun v H1 s1 hv => ?_⟩
  unfold wIsiC at e2
  split at e2
  · rename_i k ds
    split at e2
    · rename_i hk'
      cases e2
      obtain ⟨C, h1, h2, h3, h4, hkt, h5⟩ := (gd.clo.cl k hk').ex
      obtain ⟨ad, C', dx, vs, rfl, g1, g2, g3, g4⟩ := hv
      rw [h1] at g1
      cases g1
      exact ⟨.ref ad, .ref D, .ref C, .ref D, _, rfl, .own D, .base (.ins g2 h2 h4.ha h4.hn h4.ht h4.hm), hkt n hts D hD0, q.2 _ H1 s1 (Dp.bl _)⟩
    · cases e2
  · cases e2
end
/-! ### __init__ of one field, of two -/
section
variable {P : Program} {w : World} {K : PySem.W.Frag} {mg : Str → Option Value} {base : Heap} {qual : Str} {st : Stmt} {f C : Addr} {fd : FuncData} {x y f1 f2 : Str} {p1 p2 p3 p4 q1 q2 q3 q4 : Pos}
theorem init_one (FN : Fun K "__init__" qual st f fd) (S : FnScope ["self", x] ["self", x] (defScope st)) (hb : defBody st = [.Assign [.Attribute (.Name "self" p1) f1 p2] (.Name x p3) p4]) (cl : Cls K C) (na : NoAttr K C f1)
    (hv0 : Vis (defScope st) "self") (hv : Vis (defScope st) x) (hd : (x == ("__debug__" : Str)) = false := by decide) (hcd : (x == ("__classdict__" : Str)) = false := by decide) : FnOk P w K mg base CX0 1 f fd ["self", x] (spInit C [f1]) := by
  refine FN.ok S (fun vs H Q E q => ?_) (fun cdv A outer s H vs Q E hr q => ?_)
  · obtain ⟨z, dx, ws, rfl, hl, _⟩ := q
    simp at hl ⊢
    exact hl
  · obtain ⟨z, dx, ws, rfl, hl, hz, q⟩ := q
    rw [hb]
    refine ⟨_, pss_one (ps_fld (pe_var (i := 0) rfl hv0) (pe_var (i := 1) rfl hv hd hcd) rfl), ?_⟩
    match ws, hl with
    | [v], _ => exact ⟨v, rfl, .ref z, rfl, z, C, dx, _, rfl, hz, cl, na, by decide, q⟩
theorem init_two (FN : Fun K "__init__" qual st f fd) (S : FnScope ["self", x, y] ["self", x, y] (defScope st)) (hb : defBody st = [.Assign [.Attribute (.Name "self" p1) f1 p2] (.Name x p3) p4, .Assign [.Attribute (.Name "self" q1) f2 q2] (.Name y q3) q4]) (cl : Cls K C) (na : NoAttr K C f1) (na2 : NoAttr K C f2) (hne : f1 ≠ f2)
    (hv0 : Vis (defScope st) "self") (hv : Vis (defScope st) x) (hv2 : Vis (defScope st) y) (hd : (x == ("__debug__" : Str)) = false := by decide) (hcd : (x == ("__classdict__" : Str)) = false := by decide) (hd2 : (y == ("__debug__" : Str)) = false := by decide) (hcd2 : (y == ("__classdict__" : Str)) = false := by decide) : FnOk P w K mg base CX0 1 f fd ["self", x, y] (spInit C [f1, f2]) := by
  refine FN.ok S (fun vs H Q E q => ?_) (fun cdv A outer s H vs Q E hr q => ?_)
  · obtain ⟨z, dx, ws, rfl, hl, _⟩ := q
    simp at hl ⊢
    exact hl
  · obtain ⟨z, dx, ws, rfl, hl, hz, q⟩ := q
    rw [hb]
    refine ⟨_, pss_cons (ps_fld (pe_var (i := 0) rfl hv0) (pe_var (i := 1) rfl hv hd hcd) rfl) (pss_one (ps_fld (pe_var (i := 0) rfl hv0) (pe_var (i := 2) rfl hv2 hd2 hcd2) rfl)), ?_⟩
    match ws, hl with
    | [v, u], _ =>
      refine ⟨v, rfl, .ref z, rfl, z, C, dx, _, rfl, hz, cl, na, by decide, u, rfl, .ref z, rfl, z, C, dx, _, rfl, upd_same, cl, na2, (by show (1 : Nat) < 1000; decide), ?_⟩
      rw [upd_upd]
      have e : putF f2 u (putF f1 v []) = [f1, f2].zip [v, u] := by
        show (if f1 = f2 then [(f1, u)] else (f1, v) :: putF f2 u []) = _
        rw [if_neg hne]
        rfl
      rw [e]
      exact q
end
end Nm
namespace Nm
open PySem L2
/-! ### what the top has written -/
def DefAt (K : PySem.W.Frag) (x qual : Str) (st : Stmt) (ps : List Str) : Prop := ∃ f fd, PySem.W.nsIn K mainGlobals x = some (some (.ref f)) ∧ Fun K x qual st f fd ∧ ∀ us : List Value, us.length = ps.length → bindArgs fd ⟨us, []⟩ = pure (ps.zip us)
def BindOk (x qual : Str) (st : Stmt) (ps : List Str) : Prop := ∀ (kV doc pm : Value) (an : Option Addr) (cdv ct : Value) (us : List Value), us.length = ps.length → bindArgs (PySem.W.fnOf x qual (defArgs st) (defBody st) (defScope st) .none kV doc pm an cdv ct) ⟨us, []⟩ = pure (ps.zip us)
theorem defAt_mk {K : PySem.W.Frag} {x qual : Str} {st : Stmt} {ps : List Str} {f : Addr} {oc kV dc pm cd ct : Value} {od an : Option Addr} {sl : Array (Option Value)} (hb : BindOk x qual st ps)
    (a : PySem.W.nsIn K mainGlobals x = some (some (.ref f))) (l : K.lookup f = some ⟨oc, od, .func (PySem.W.fnOf x qual (defArgs st) (defBody st) (defScope st) .none kV dc pm an cd ct), sl⟩) (c : PySem.W.codeIn K cd qual = true) (k : PySem.W.keepIn K (.ref f) = true) : DefAt K x qual st ps :=
  ⟨f, _, a, fun_mk l c k, fun us h => hb kV dc pm an cd ct us h⟩
def MetAt (K : PySem.W.Frag) (cn m qual : Str) (st : Stmt) (ps : List Str) : Prop := ∃ C f fd, PySem.W.nsIn K mainGlobals cn = some (some (.ref C)) ∧ Meth K C m f ∧ Fun K m qual st f fd ∧ ∀ us : List Value, us.length = ps.length → bindArgs fd ⟨us, []⟩ = pure (ps.zip us)
theorem metAt_mk {K : PySem.W.Frag} {cn m qual : Str} {st : Stmt} {ps : List Str} {C f : Addr} {oc kV dc pm cd ct : Value} {od an : Option Addr} {sl : Array (Option Value)} (hb : BindOk m qual st ps)
    (aC : PySem.W.nsIn K mainGlobals cn = some (some (.ref C))) (a : PySem.W.findIn K (.ref C) m = some (some (.ref f))) (i : PySem.W.isFn K (.ref f) = true) (l : K.lookup f = some ⟨oc, od, .func (PySem.W.fnOf m qual (defArgs st) (defBody st) (defScope st) .none kV dc pm an cd ct), sl⟩) (c : PySem.W.codeIn K cd qual = true) (k : PySem.W.keepIn K (.ref f) = true) : MetAt K cn m qual st ps :=
  ⟨C, f, _, aC, ⟨a, i, k⟩, fun_mk l c k, fun us h => hb kV dc pm an cd ct us h⟩
structure ClsAt (K : PySem.W.Frag) (C : Addr) (cn : Str) (fs : List Str) : Prop where
  aC : PySem.W.nsIn K mainGlobals cn = some (some (.ref C))
  cl : Cls K C
  na : ∀ f ∈ fs, NoAttr K C f
  ty : InsTy K C
theorem clsAt_mk {K : PySem.W.Frag} {C : Addr} {cn : Str} {fs : List Str} (aC : PySem.W.nsIn K mainGlobals cn = some (some (.ref C)))
    (pg : PySem.W.plainGet K C Str.empty = true) (hd : PySem.W.hasDictIn K C = true) (po : PySem.W.plainOver K C = true) (sa : PySem.W.findIn K (.ref C) "__setattr__" = some (some (.builtin "object.__setattr__")))
    (ha : PySem.W.findIn K (.ref C) "__class__" = some (some (.builtin "object.__class__"))) (hn : PySem.W.specialIn K (.builtin "object.__class__") "__get__" = some (some (.builtin "getset_descriptor.__get__")))
    (ht : PySem.W.takesIn K (.builtin "object.__class__") = some true) (hm : PySem.W.mroIn K C (.type "object") = some true) (na : ∀ f ∈ fs, NoAttr K C f) : ClsAt K C cn fs := ⟨aC, ⟨pg, hd, po, sa⟩, na, ⟨ha, hn, ht, hm⟩⟩
theorem na_one {K : PySem.W.Frag} {C : Addr} {f : Str} (h : PySem.W.findIn K (.ref C) f = some none) : ∀ g ∈ [f], NoAttr K C g := fun g hg => by
  rw [List.mem_singleton.mp hg]
  exact h
theorem na_two {K : PySem.W.Frag} {C : Addr} {f f2 : Str} (h : PySem.W.findIn K (.ref C) f = some none) (h2 : PySem.W.findIn K (.ref C) f2 = some none) : ∀ g ∈ [f, f2], NoAttr K C g := fun g hg => by
  rcases List.mem_cons.mp hg with e | e
  · rw [e]; exact h
  · rw [List.mem_singleton.mp e]; exact h2
theorem na_none {K : PySem.W.Frag} {C : Addr} : ∀ g ∈ ([] : List Str), NoAttr K C g := fun g hg => nomatch hg
/-- a class whose __init__ is st -/
def IniAt (K : PySem.W.Frag) (C : Addr) (qual : Str) (st : Stmt) (ps : List Str) : Prop := ∃ f fd, Mk K C f ∧ Fun K "__init__" qual st f fd ∧ ∀ us : List Value, us.length = ps.length → bindArgs fd ⟨us, []⟩ = pure (ps.zip us)
theorem iniAt_mk {K : PySem.W.Frag} {C : Addr} {qual : Str} {st : Stmt} {ps : List Str} {f : Addr} {oc kV dc pm cd ct : Value} {od an : Option Addr} {sl : Array (Option Value)} (hb : BindOk "__init__" qual st ps)
    (mk : PySem.W.makesIn K C = true) (a : PySem.W.findIn K (.ref C) "__init__" = some (some (.ref f))) (i : PySem.W.isFn K (.ref f) = true) (kc : PySem.W.keepIn K (.ref C) = true) (l : K.lookup f = some ⟨oc, od, .func (PySem.W.fnOf "__init__" qual (defArgs st) (defBody st) (defScope st) .none kV dc pm an cd ct), sl⟩) (c : PySem.W.codeIn K cd qual = true) (k : PySem.W.keepIn K (.ref f) = true) : IniAt K C qual st ps :=
  ⟨f, _, ⟨mk, a, i, kc⟩, fun_mk l c k, fun us h => hb kV dc pm an cd ct us h⟩
section
variable {T : Tab} {P : Program} {w : World} {K : PySem.W.Frag} {mg : Str → Option Value} {base h : Heap} {F : Fs} {k : Nat} {x qual : Str} {st : Stmt} {N ps : List Str} {g : CS} {args : List W} {r : Res} {i : Nat}
theorem cal_def (X : K.In h) (G : h.Ns mainGlobals mg) (D : DefAt K x qual st ps) (S : FnScope N ps (defScope st)) (tab : TabOk T K mg w) (cal : ∀ i args r, F i args = some r → Calb T P w K mg base k i args r)
    (clo : CloAll T P w K mg base) (o : OkSs ⟨T, N, F, k, defScope st, true, false, qual⟩ (defBody st) g) (e : runD N ps.length g args = some r) (hp : T.ps i = ps) (hx : T.fn i = x) (hm : T.mo i = none) (hlm : T.lm i = none := by rfl) (hql : qual ∈ T.lk → qual = x ∧ (tabAt K mg qual).isSome = true := by intro h; exact absurd h (by decide)) : Calb T P w K mg base (k + 1) i args r := by
  obtain ⟨f, fd, a, FN, b⟩ := D
  have hlw : LwOk T K mg qual f := fun h => ⟨by rw [(hql h).1]; exact PySem.W.mg_of X G a, (hql h).2⟩
  refine ⟨fun _ => ⟨f, fd, by rw [hp]; exact .all b, by rw [hp]; exact fnok_cx _ (def_ok FN S tab cal clo hlw o e), fun _ => ⟨by rw [hx]; exact PySem.W.mg_of X G a, FN.kp⟩, fun cid m q => ?_⟩, fun L q => absurd (hlm.symm.trans q) nofun⟩
  rw [hm] at q
  cases q
theorem cal_met {cn m : Str} {n : Nat} (X : K.In h) (G : h.Ns mainGlobals mg) (D : MetAt K cn m qual st ps) (S : FnScope N ps (defScope st)) (tab : TabOk T K mg w) (cal : ∀ i args r, F i args = some r → Calb T P w K mg base k i args r)
    (clo : CloAll T P w K mg base) (o : OkSs ⟨T, N, F, k, defScope st, true, false, qual⟩ (defBody st) g) (e : runD N ps.length g args = some r) (hp : T.ps i = ps) (hm : T.mo i = some (n, m)) (hc : T.cn n = cn) (hlm : T.lm i = none := by rfl) (hql : qual ∉ T.lk := by decide) : Calb T P w K mg base (k + 1) i args r := by
  obtain ⟨C, f, fd, aC, M, FN, b⟩ := D
  have hlw : LwOk T K mg qual f := fun h => absurd h hql
  refine ⟨fun _ => ⟨f, fd, by rw [hp]; exact .all b, by rw [hp]; exact fnok_cx _ (def_ok FN S tab cal clo hlw o e), fun q => ?_, fun cid m' q => ?_⟩, fun L q => absurd (hlm.symm.trans q) nofun⟩
  · rw [hm] at q; cases q
  · rw [hm] at q
    cases q
    exact ⟨C, by rw [hc]; exact PySem.W.mg_of X G aC, M⟩
theorem kt_ne {K : PySem.W.Frag} {C D : Addr} {b : Bool} {x : ClassData} (hne : (C == D) = false) (ci : PySem.W.clsIn K D = some x) (ty : PySem.W.typeIn K (.ref D) = some (.type "type")) (su : PySem.W.subIn K (.ref C) (.ref D) = some b) : PySem.W.kitOne K (.ref C) (.ref D) = some b := by
  have h : ¬ (Value.ref C == Value.ref D) = true := fun z => by
    have z : Value.ref C = Value.ref D := by simpa using z
    cases z
    simp at hne
  unfold PySem.W.kitOne
  rw [if_neg h]
  simp only [PySem.W.kitCls, ci, ty]
  exact su
theorem kt_eq {K : PySem.W.Frag} {C : Addr} : PySem.W.kitOne K (.ref C) (.ref C) = some true := by
  unfold PySem.W.kitOne
  rw [if_pos (by simp)]
theorem kt_of {K : PySem.W.Frag} {mg : Str → Option Value} {h : Heap} {C D D' : Addr} {cn : Str} {fs : List Str} {b : Bool} (X : K.In h) (G : h.Ns mainGlobals mg) (A : ClsAt K D' cn fs) (hD : mg cn = some (.ref D)) (k : PySem.W.kitOne K (.ref C) (.ref D') = some b) : PySem.W.kitOne K (.ref C) (.ref D) = some b := by
  have e := PySem.W.mg_of X G A.aC
  rw [hD] at e
  cases e
  exact k
theorem clo_none {n : Nat} {C : Addr} {cn : Str} (X : K.In h) (G : h.Ns mainGlobals mg) (A : ClsAt K C cn []) (kt : ∀ n' ∈ T.ts, ∀ D, mg (T.cn n') = some (.ref D) → PySem.W.kitOne K (.ref C) (.ref D) = some (T.sub n n')) (hc : T.cn n = cn) (hf : T.cf n = []) (hm : T.mk0 n = true → Mk0 K C) : ClOk T P w K mg base n :=
  ⟨C, by rw [hc]; exact PySem.W.mg_of X G A.aC, A.cl, by rw [hf]; exact A.na, A.ty, kt, hm, fun q => absurd hf q⟩
theorem clo_one {n : Nat} {C : Addr} {cn f1 y : Str} {p1 p2 p3 p4 : Pos} (X : K.In h) (G : h.Ns mainGlobals mg) (A : ClsAt K C cn [f1]) (kt : ∀ n' ∈ T.ts, ∀ D, mg (T.cn n') = some (.ref D) → PySem.W.kitOne K (.ref C) (.ref D) = some (T.sub n n')) (I : IniAt K C qual st ["self", y]) (S : FnScope ["self", y] ["self", y] (defScope st)) (hb : defBody st = [.Assign [.Attribute (.Name "self" p1) f1 p2] (.Name y p3) p4])
    (hv0 : Vis (defScope st) "self") (hv : Vis (defScope st) y) (hc : T.cn n = cn) (hf : T.cf n = [f1]) (hm : T.mk0 n = false) (hd : (y == ("__debug__" : Str)) = false := by decide) (hcd : (y == ("__classdict__" : Str)) = false := by decide) : ClOk T P w K mg base n := by
  obtain ⟨f, fd, M, FN, b⟩ := I
  exact ⟨C, by rw [hc]; exact PySem.W.mg_of X G A.aC, A.cl, by rw [hf]; exact A.na, A.ty, kt, fun q => absurd (hm.symm.trans q) (by decide), fun _ => ⟨f, fd, ["self", y], M, .all b, by rw [hf]; rfl, by rw [hf]; exact init_one FN S hb A.cl (A.na _ List.mem_cons_self) hv0 hv hd hcd⟩⟩
theorem clo_two {n : Nat} {C : Addr} {cn f1 f2 y z : Str} {p1 p2 p3 p4 q1 q2 q3 q4 : Pos} (X : K.In h) (G : h.Ns mainGlobals mg) (A : ClsAt K C cn [f1, f2]) (kt : ∀ n' ∈ T.ts, ∀ D, mg (T.cn n') = some (.ref D) → PySem.W.kitOne K (.ref C) (.ref D) = some (T.sub n n')) (I : IniAt K C qual st ["self", y, z]) (S : FnScope ["self", y, z] ["self", y, z] (defScope st)) (hb : defBody st = [.Assign [.Attribute (.Name "self" p1) f1 p2] (.Name y p3) p4, .Assign [.Attribute (.Name "self" q1) f2 q2] (.Name z q3) q4])
    (hne : f1 ≠ f2) (hv0 : Vis (defScope st) "self") (hv : Vis (defScope st) y) (hv2 : Vis (defScope st) z) (hc : T.cn n = cn) (hf : T.cf n = [f1, f2]) (hm : T.mk0 n = false) (hd : (y == ("__debug__" : Str)) = false := by decide) (hcd : (y == ("__classdict__" : Str)) = false := by decide) (hd2 : (z == ("__debug__" : Str)) = false := by decide) (hcd2 : (z == ("__classdict__" : Str)) = false := by decide) : ClOk T P w K mg base n := by
  obtain ⟨f, fd, M, FN, b⟩ := I
  exact ⟨C, by rw [hc]; exact PySem.W.mg_of X G A.aC, A.cl, by rw [hf]; exact A.na, A.ty, kt, fun q => absurd (hm.symm.trans q) (by decide), fun _ => ⟨f, fd, ["self", y, z], M, .all b, by rw [hf]; rfl, by rw [hf]; exact init_two FN S hb A.cl (A.na _ List.mem_cons_self) (A.na _ (List.mem_cons_of_mem _ List.mem_cons_self)) hne hv0 hv hv2 hd hcd hd2 hcd2⟩⟩
end
/-! ### the law -/
def lkc (T : Tab) (K : PySem.W.Frag) (mg : Str → Option Value) : List (Addr × Addr) := T.lk.filterMap (tabAt K mg)
theorem lkc_mem {T : Tab} {K : PySem.W.Frag} {mg : Str → Option Value} {x : Str} {p : Addr × Addr} (h : x ∈ T.lk) (e : tabAt K mg x = some p) : p ∈ lkc T K mg := List.mem_filterMap.mpr ⟨x, h, e⟩
theorem tb_nil {T : Tab} {K : PySem.W.Frag} {mg : Str → Option Value} {H : Hp} (h : ∀ p ∈ lkc T K mg, H p.2 = some (.tbl #[])) : TbOk T K mg H := fun x hx c P e => .nil (h _ (lkc_mem hx e))
def spLaw (T : Tab) (K : PySem.W.Frag) (mg : Str → Option Value) : Sp := fun vs H Q _ => ∃ (a : Addr) (ns : List Int), vs = [.ref a] ∧ SqL K H a (ns.map V.int) ∧ ns.length ≤ 63 ∧ (∀ z ∈ ns, Builtin.Int.intBits z ≤ 1048576) ∧ TbOk T K mg H ∧ ∀ H', Q (.bl true) H'
theorem dpa_ints {K : PySem.W.Frag} {H : Hp} : ∀ ns : List Int, DpAll K H (ns.map V.int) (ns.map PyData.int)
  | [] => .nil
  | n :: r => .cons (.int n) (dpa_ints r)
def inp (ns : List Int) : List W := [.d (.list (ns.map .int))]
def yes : Res := .w (.d (.bool true))
theorem law_fn {T : Tab} {P : Program} {w : World} {K : PySem.W.Frag} {mg : Str → Option Value} {h : Heap} {F : Fs} {k : Nat} {x : Str} {st : Stmt} {y : Str} {fa : Addr} {N : List Str} {g : CS} (X : K.In h) (G : h.Ns mainGlobals mg) (hfa : mg x = some (.ref fa)) (D : DefAt K x x st [y])
    (S : FnScope N [y] (defScope st)) (tab : TabOk T K mg w) (cal : ∀ base : Heap, CloAll T P w K mg base → ∀ i args r, F i args = some r → Calb T P w K mg base k i args r) (cl : ∀ base : Heap, ∀ i, i < T.nc → ClOk T P w K mg base i) (o : OkSs ⟨T, N, F, k, defScope st, true, false, x⟩ (defBody st) g)
    (hlk : x ∈ T.lk → (tabAt K mg x).isSome = true) (kd : ∀ base : Heap, ∀ x bs, T.kd = some (x, bs) → KOk T P w K mg base x bs)
    (main : ∀ ns : List Int, ns.length ≤ 63 → (∀ z ∈ ns, Builtin.Int.intBits z ≤ 1048576) → runD N 1 g (inp ns) = some yes) :
    ∃ fd : FuncData, (∀ (s : Shared) (u : Value), BindsTo s fd ⟨[u], []⟩ [(y, u)]) ∧ ∀ base : Heap, K.In base → base.Ns mainGlobals mg → (∀ p ∈ lkc T K mg, LamX.TabB base mg p.1 p.2) → FnOk P w K mg base CX0 (k + 1) fa fd [y] (spLaw T K mg) := by
  obtain ⟨f, fd, a, FN, b⟩ := D
  have e := PySem.W.mg_of X G a
  rw [hfa] at e
  cases e
  refine ⟨fd, fun s u => .of_eq (b [u] rfl), fun base _ _ TB => ⟨fun vs H Q E q => ?_, fun A outer s H args us vs Q E hr e0 hb hv q => ?_⟩⟩
  · obtain ⟨a, ns, rfl, _⟩ := q
    rfl
  · obtain ⟨a, ns, rfl, hS, h63, hbits, tb, q⟩ := q
    have clo : CloAll T P w K mg base := ⟨cl base, fun y hy c P e => TB _ (lkc_mem hy e), kd base⟩
    have FO := def_ok (ps := [y]) FN S tab (cal base clo) clo (fun h => ⟨hfa, hlk h⟩) o (main ns h63 hbits)
    refine FO.run A outer s H args us _ Q E hr e0 hb hv ⟨.cons (Dp.lst hS (dpa_ints ns)) .nil, tb, fun v H' s1 hv => ?_⟩
    have hv : Dp K H' v (.bool true) := hv
    cases hv
    exact q H'
end Nm
namespace Nm
open PySem L2
section
variable {c : C0} {pos : Pos} {a b d e : Expr} {fa fb fd f : Rho → Option W}
/-! ### a op b op' d -/
def cCh (g g' : W → W → Option W) (fa fb fd : Rho → Option W) : Rho → Option W := fun r => match fa r with
  | some x => match fb r with
    | some y => match wB (g x y) with
      | some true => match fd r with
        | some z => g' y z
        | none => none
      | some false => some (.d (.bool false))
      | none => none
    | none => none
  | none => none
theorem wB_some {o : Option W} {k : Bool} (h : wB o = some k) : o = some (.d (.bool k)) := by
  unfold wB at h
  split at h
  · injection h with h; subst h; rfl
  · cases h
theorem tCh_of {g g' : W → W → Option W} {rr rr' : Cx → R2} (ho : OpOk c g rr) (ho' : OpOk c g' rr') {X : Cx} (gd : Gd c X) {r : Rho} {w : W} (h : cCh g g' fa fb fd r = some w)
    (ha : OkE c a fa) (hb : OkE c b fb) (hd : OkE c d fd) : ∃ ta tb td, PE X a ta ∧ PE X b tb ∧ PE X d td ∧ ∀ s H Q, tD c.T X r w s H Q → tChain (rr X) (rr' X) ta tb td s H Q := by
  unfold cCh at h
  split at h
  · rename_i x e1
    split at h
    · rename_i y e2
      split at h
      · rename_i e3
        have e3 := wB_some e3
        split at h
        · rename_i z e4
          refine ⟨_, _, _, ha X gd r x e1, hb X gd r y e2, hd X gd r z e4, fun s H Q q => ⟨q.1, fun v H1 s1 hv => ⟨rv_mono s1 q.1, fun u H2 s2 hu => ?_⟩⟩⟩
          refine ho X gd H2 v u x y _ _ e3 (rw_mono s2 hv) hu fun k H3 s3 hk => ⟨true, bl_of hk, iteT ⟨rv_mono (s1.trans (s2.trans s3)) q.1, fun t H4 s4 ht => ?_⟩⟩
          exact ho' X gd H4 u t y z w Q h (rw_mono (s3.trans s4) hu) ht fun k2 H5 s5 hk2 => q.2 k2 H5 (s1.trans (s2.trans (s3.trans (s4.trans s5)))) hk2
        · cases h
      · rename_i e3
        have e3 := wB_some e3
        cases h
        refine ⟨_, _, _, ha X gd r x e1, hb X gd r y e2, pe_never, fun s H Q q => ⟨q.1, fun v H1 s1 hv => ⟨rv_mono s1 q.1, fun u H2 s2 hu => ?_⟩⟩⟩
        exact ho X gd H2 v u x y _ _ e3 (rw_mono s2 hv) hu fun k H3 s3 hk => ⟨false, bl_of hk, iteF (q.2 _ H3 (s1.trans (s2.trans s3)) (Dp.bl false))⟩
      · cases h
    · cases h
  · cases h
theorem ok_chain {op op' : CmpOp} {g g' : W → W → Option W} {rr rr' : Cx → R2} (hr : ∀ X, Gd c X → OpR X (compareOp op) (rr X)) (ho : OpOk c g rr) (hr' : ∀ X, Gd c X → OpR X (compareOp op') (rr' X)) (ho' : OpOk c g' rr')
    (ha : OkE c a fa) (hb : OkE c b fb) (hd : OkE c d fd) (hm : lastMarks [op, op'] [b, d] = false) : OkE c (.Compare a [op, op'] [b, d] pos) (cCh g g' fa fb fd) := fun X gd r w h => by
  obtain ⟨ta, tb, td, p1, p2, p3, q⟩ := tCh_of ho ho' gd h ha hb hd
  exact pe_imp (pe_chain (hr X gd) (hr' X gd) p1 p2 p3 hm) q
theorem okT_chain {op op' : CmpOp} {g g' : W → W → Option W} {rr rr' : Cx → R2} (hr : ∀ X, Gd c X → OpR X (compareOp op) (rr X)) (ho : OpOk c g rr) (hr' : ∀ X, Gd c X → OpR X (compareOp op') (rr' X)) (ho' : OpOk c g' rr')
    (ha : OkE c a fa) (hb : OkE c b fb) (hd : OkE c d fd) (hm : lastMarks [op, op'] [b, d] = false) : OkT c (.Compare a [op, op'] [b, d] pos) (cT (cCh g g' fa fb fd)) := fun X gd r k h => by
  obtain ⟨ta, tb, td, p1, p2, p3, q⟩ := tCh_of ho ho' gd (cT_some h) ha hb hd
  exact pt_imp (pt_chain (hr X gd) (hr' X gd) p1 p2 p3 hm) fun s H Q z => q s H _ ⟨z.1, fun v H' s1 hv => ⟨k, bl_of hv, z.2 H' s1⟩⟩
theorem ok_lele (ha : OkE c a fa) (hb : OkE c b fb) (hd : OkE c d fd) (hm : lastMarks [.LtE, .LtE] [b, d] = false := by with_unfolding_all rfl) : OkE c (.Compare a [.LtE, .LtE] [b, d] pos) (cCh wLe wLe fa fb fd) := ok_chain (fun X g => op_le) (oo_II fun _ _ _ _ => Dp.bl _) (fun X g => op_le) (oo_II fun _ _ _ _ => Dp.bl _) ha hb hd hm
theorem okT_lele (ha : OkE c a fa) (hb : OkE c b fb) (hd : OkE c d fd) (hm : lastMarks [.LtE, .LtE] [b, d] = false := by with_unfolding_all rfl) : OkT c (.Compare a [.LtE, .LtE] [b, d] pos) (cT (cCh wLe wLe fa fb fd)) := okT_chain (fun X g => op_le) (oo_II fun _ _ _ _ => Dp.bl _) (fun X g => op_le) (oo_II fun _ _ _ _ => Dp.bl _) ha hb hd hm
theorem ok_gege (ha : OkE c a fa) (hb : OkE c b fb) (hd : OkE c d fd) (hm : lastMarks [.GtE, .GtE] [b, d] = false := by with_unfolding_all rfl) : OkE c (.Compare a [.GtE, .GtE] [b, d] pos) (cCh wGe wGe fa fb fd) := ok_chain (fun X g => op_ge) (oo_II fun _ _ _ _ => Dp.bl _) (fun X g => op_ge) (oo_II fun _ _ _ _ => Dp.bl _) ha hb hd hm
theorem okT_gege (ha : OkE c a fa) (hb : OkE c b fb) (hd : OkE c d fd) (hm : lastMarks [.GtE, .GtE] [b, d] = false := by with_unfolding_all rfl) : OkT c (.Compare a [.GtE, .GtE] [b, d] pos) (cT (cCh wGe wGe fa fb fd)) := okT_chain (fun X g => op_ge) (oo_II fun _ _ _ _ => Dp.bl _) (fun X g => op_ge) (oo_II fun _ _ _ _ => Dp.bl _) ha hb hd hm
/-! ### an expression as a statement -/
def sExpr (f : Rho → Option W) : CS := fun r => match f r with
  | some _ => some (.nx r)
  | none => none
theorem okS_expr (he : OkE c e f) (hs : ∀ env l, swapsWith e none l env = pure false := by intro _ _; rfl) : OkS c (.Expr e pos) (sExpr f) := fun X gd hx r o k => by
  unfold sExpr at k
  split at k
  · rename_i w e1
    cases k
    exact ps_imp (ps_expr (he X gd r w e1) (hs X.env pos.line)) fun D s H ⟨gh, He, h1, h2⟩ => ⟨h1.rv, fun v H1 s1 hv => h2 s H1 (h1.step s1)⟩
  · cases k
/-! ### what can be stored -/
def slOk (x : Sl) (r : Rho) : Bool := match x with
  | .w w => w.im || noOwn r
  | x => x.imo
def OkX (c : C0) (e : Expr) (f : Rho → Option Sl) : Prop := ∀ X, Gd c X → ∀ r x, f r = some x → ∃ t, PE X e t ∧ ∀ s H (Q : VK), RV c.T X.K X.mg H s r →
  (∀ v H', Same H H' → (∀ gh He s' r', RS c.T X.K X.mg gh He H s' r' → slOk x r' = true → ∀ i, RS c.T X.K X.mg gh He H' (s'.set i (some v)) (r'.set i (some x))) → Q v H') → t s H Q
def zV (f : Rho → Option W) : Rho → Option Sl := fun r => match f r with
  | some w => some (.w w)
  | none => none
def zO (f : Rho → Option (List PyData)) : Rho → Option Sl := fun r => match f r with
  | some xs => some (.own xs)
  | none => none
theorem okX_v (h : OkE c e f) : OkX c e (zV f) := fun X gd r x k => by
  unfold zV at k
  split at k
  · rename_i w e1
    cases k
    exact ⟨_, h X gd r w e1, fun s H Q q1 q2 => ⟨q1, fun v H' s1 hv => q2 v H' s1 fun gh He s' r' h1 h2 i => (h1.step s1).setv h2 hv i⟩⟩
  · cases k
theorem okX_o {f : Rho → Option (List PyData)} (h : OkL c e f) : OkX c e (zO f) := fun X gd r x k => by
  unfold zO at k
  split at k
  · rename_i xs e1
    cases k
    exact ⟨_, h X gd r xs e1, fun s H Q q1 q2 => ⟨q1, fun p vs H' hp s1 h' hd => q2 _ H' s1 fun gh He s' r' h1 h2 i => h1.seto hp s1 h' hd h2 i⟩⟩
  · cases k
variable {x y z : Str} {px py pz : Pos} {ga gb gc : Rho → Option Sl}
def sSt2 (i j : Nat) (ga gb : Rho → Option Sl) : CS := fun r => match ga r with
  | some v => match gb r with
    | some w => if slOk v r && slOk w (r.set i (some v)) then some (.nx ((r.set i (some v)).set j (some w))) else none
    | none => none
  | none => none
theorem okS_st2 {k1 k2} {p1 p2 : Pos} (i j : Nat) (hN : c.N[i]? = some x) (hl : c.sc.names.lookup x = some .local) (hN2 : c.N[j]? = some y) (hl2 : c.sc.names.lookup y = some .local) (hij : i ≠ j) (ha : OkX c a ga) (hb : OkX c b gb)
    (hw : ∀ env : Env, env.scope = c.sc → swappedStores [.Tuple [.Name x px, .Name y py] k1 p1] (.Tuple [a, b] k2 p2) env = pure (some [x, y]) := by intro env h; cases env; simp only at h; subst h; rfl)
    (hs : ∀ env, starEach [a, b] env = (false, eval a env) :: starEach [b] env := by intro _; rfl) (hs2 : ∀ env, starEach [b] env = [(false, eval b env)] := by intro _; rfl) :
    OkS c (.Assign [.Tuple [.Name x px, .Name y py] k1 p1] (.Tuple [a, b] k2 p2) pos) (sSt2 i j ga gb) := fun X gd hx r o k => by
  unfold sSt2 at k
  split at k
  · rename_i v e1
    split at k
    · rename_i w e2
      split at k
      · rename_i hc
        have hc := Bool.and_eq_true_iff.mp hc
        cases k
        obtain ⟨ta, h1, h2⟩ := ha X gd r v e1
        obtain ⟨tb, h3, h4⟩ := hb X gd r w e2
        refine ps_imp (ps_par (i := i) (j := j) gd.calm (by rw [gd.hN]; exact gd.nd) (by rw [gd.hN]; exact hN) (by rw [gd.hN]; exact hN2) hij (by rw [gd.hsc]; exact hl) (by rw [gd.hsc]; exact hl2) (pa_cons h1 (pa_cons h3 pa_nil (hs2 X.env)) (hs X.env)) (hw X.env gd.hsc) rfl) fun D s H ⟨gh, He, q1, q2⟩ => ?_
        refine h2 s H _ q1.rv fun v1 H1 s1 k1 => h4 s H1 _ (rv_mono s1 q1.rv) fun v2 H2 s2 k2 => ⟨v1, v2, rfl, q2 _ _ ?_⟩
        exact k2 gh He _ _ (k1 gh He s r q1 hc.1 i) hc.2 j
      · cases k
    · cases k
  · cases k
def sSt3 (i j l : Nat) (ga gb gc : Rho → Option Sl) : CS := fun r => match ga r with
  | some v => match gb r with
    | some w => match gc r with
      | some u => if slOk v r && (slOk w (r.set i (some v)) && slOk u ((r.set i (some v)).set j (some w))) then some (.nx (((r.set i (some v)).set j (some w)).set l (some u))) else none
      | none => none
    | none => none
  | none => none
theorem okS_st3 {k1 k2} {p1 p2 : Pos} (i j l : Nat) (hN : c.N[i]? = some x) (hl : c.sc.names.lookup x = some .local) (hN2 : c.N[j]? = some y) (hl2 : c.sc.names.lookup y = some .local) (hN3 : c.N[l]? = some z) (hl3 : c.sc.names.lookup z = some .local) (hij : i ≠ j) (hil : i ≠ l) (hjl : j ≠ l) (ha : OkX c a ga) (hb : OkX c b gb) (hd : OkX c d gc)
    (hw : ∀ env : Env, env.scope = c.sc → swappedStores [.Tuple [.Name x px, .Name y py, .Name z pz] k1 p1] (.Tuple [a, b, d] k2 p2) env = pure (some [x, y, z]) := by intro env h; cases env; simp only at h; subst h; rfl)
    (hs : ∀ env, starEach [a, b, d] env = (false, eval a env) :: starEach [b, d] env := by intro _; rfl) (hs2 : ∀ env, starEach [b, d] env = (false, eval b env) :: starEach [d] env := by intro _; rfl) (hs3 : ∀ env, starEach [d] env = [(false, eval d env)] := by intro _; rfl) :
    OkS c (.Assign [.Tuple [.Name x px, .Name y py, .Name z pz] k1 p1] (.Tuple [a, b, d] k2 p2) pos) (sSt3 i j l ga gb gc) := fun X gd hx r o k => by
  unfold sSt3 at k
  split at k
  · rename_i v e1
    split at k
    · rename_i w e2
      split at k
      · rename_i u e3
        split at k
        · rename_i hc
          have hc := Bool.and_eq_true_iff.mp hc
          have hc2 := Bool.and_eq_true_iff.mp hc.2
          cases k
          obtain ⟨ta, h1, h2⟩ := ha X gd r v e1
          obtain ⟨tb, h3, h4⟩ := hb X gd r w e2
          obtain ⟨td, h5, h6⟩ := hd X gd r u e3
          refine ps_imp (ps_par3 (i := i) (j := j) (l := l) gd.calm (by rw [gd.hN]; exact gd.nd) (by rw [gd.hN]; exact hN) (by rw [gd.hN]; exact hN2) (by rw [gd.hN]; exact hN3) hij hil hjl (by rw [gd.hsc]; exact hl) (by rw [gd.hsc]; exact hl2) (by rw [gd.hsc]; exact hl3)
            (pa_cons h1 (pa_cons h3 (pa_cons h5 pa_nil (hs3 X.env)) (hs2 X.env)) (hs X.env)) (hw X.env gd.hsc) rfl) fun D s H ⟨gh, He, q1, q2⟩ => ?_
          refine h2 s H _ q1.rv fun v1 H1 s1 k1 => h4 s H1 _ (rv_mono s1 q1.rv) fun v2 H2 s2 k2 => h6 s H2 _ (rv_mono (s1.trans s2) q1.rv) fun v3 H3 s3 k3 => ⟨v1, v2, v3, rfl, q2 _ _ ?_⟩
          exact k3 gh He _ _ (k2 gh He _ _ (k1 gh He s r q1 hc.1 i) hc2.1 j) hc2.2 l
        · cases k
      · cases k
    · cases k
  · cases k
/-! ### a, b, .. = e -/
def setNs : List Nat → List PyData → Rho → Option Rho
  | [], [], r => some r
  | i :: is, d :: ds, r => setNs is ds (r.set i (some (.w (.d d))))
  | _, _, _ => none
def gNs (is : List Nat) : PyData → Rho → Option Rho := fun d r => match d with
  | .tuple ds => setNs is ds r
  | .list ds => setNs is ds r
  | _ => none
def OkGs (c : C0) (es : List Expr) (is : List Nat) : Prop := ∀ X, Gd c X → ∃ t, PGs X es t ∧ ∀ ds r r', setNs is ds r = some r' → ∀ gh He O H s vs, RSO c.T X.K X.mg gh He O H s r → DpAll X.K (mask H O) vs ds →
  ∀ Q : L2.St → Hp → Prop, (∀ s', RSO c.T X.K X.mg gh He O H s' r' → Q s' H) → t vs s H Q
theorem okGs_nil : OkGs c [] [] := fun X gd => ⟨_, pgs_nil, fun ds r r' e gh He O H s vs h1 h2 Q k => by
  cases ds with
  | nil => cases e; cases h2; exact ⟨rfl, k s h1⟩
  | cons _ _ => cases e⟩
theorem okGs_cons {es : List Expr} {is : List Nat} (i : Nat) (hN : c.N[i]? = some x) (hl : Loc c.sc x) (hr : OkGs c es is) (hf : c.fa = true ∨ c.sc.names.lookup x = some .local := by first | exact .inl rfl | exact .inr rfl)
    (hs : ∀ env, (assignEach (.Name x px :: es) env).map (·.2) = assign (.Name x px) env :: (assignEach es env).map (·.2) := by intro _; rfl) : OkGs c (.Name x px :: es) (i :: is) := fun X gd => by
  obtain ⟨t, h1, h2⟩ := hr X gd
  refine ⟨_, pgs_cons (pg_name (i := i) (by rw [gd.hN]; exact gd.nd) (by rw [gd.hN]; exact hN) (by rw [gd.hsc]; exact hl) (gd.st hf)) h1 (hs X.env), fun ds r r' e gh He O H s vs q1 q2 Q k => ?_⟩
  cases ds with
  | nil => cases e
  | cons d ds =>
    cases q2 with
    | cons q2 q3 => exact ⟨_, _, rfl, h2 ds _ _ e gh He O H _ _ (q1.set (w := .d d) q2 i) q3 Q k⟩
theorem pg_or {X : Cx} {tg : Expr} {t u : TG} (h1 : PG X tg t) (h2 : PG X tg u) : PG X tg (fun v s H Q => t v s H Q ∨ u v s H Q) := ⟨fun pins s z H v w Q I r h => h.elim (h1.run pins s z H v w Q I r) (h2.run pins s z H v w Q I r)⟩
theorem okG_ns {k} {p1 : Pos} {es : List Expr} {is : List Nat} (h : OkGs c es is) (hn : ∀ env, (assignEach es env).length = is.length := by intro _; rfl) (hst : ∀ env, (assignEach es env).findIdx? (·.1) = none := by intro _; rfl) : OkG c (.Tuple es k p1) (gNs is) := fun X gd => by
  obtain ⟨t, h1, h2⟩ := h X gd
  refine ⟨_, pg_or (pg_tup gd.calm h1 (hn X.env) (hst X.env)) (pg_lst gd.calm h1 (hn X.env) (hst X.env)), fun d r r' e gh He O H s v q1 q2 Q kk => ?_⟩
  have ln : ∀ (is : List Nat) (ds : List PyData) (r r' : Rho), setNs is ds r = some r' → ds.length = is.length := by
    intro is
    induction is with
    | nil => intro ds r r' e; cases ds with | nil => rfl | cons _ _ => cases e
    | cons i is ih => intro ds r r' e; cases ds with | nil => cases e | cons d ds => rw [List.length_cons, List.length_cons, ih ds _ _ e]
  unfold gNs at e
  split at e
  · rename_i ds
    cases q2 with
    | tup hs ha => exact .inl ⟨_, _, rfl, sqt_mono mask_sub hs, by rw [dpa_len _ _ ha]; exact ln _ _ _ _ e, h2 ds r r' e gh He O H s _ q1 ha Q fun s' h => kk s' ⟨O, h⟩⟩
  · rename_i ds
    cases q2 with
    | lst hs ha => exact .inr ⟨_, _, rfl, mask_sub.seq hs, by rw [dpa_len _ _ ha]; exact ln _ _ _ _ e, h2 ds r r' e gh He O H s _ q1 ha Q fun s' h => kk s' ⟨O, h⟩⟩
  · cases e
def sUnp (g : PyData → Rho → Option Rho) (f : Rho → Option W) : CS := fun r => match f r with
  | some (.d d) => if imm d || noOwn r then match g d r with
      | some r' => some (.nx r')
      | none => none
    else none
  | _ => none
theorem okS_unp {tg : Expr} {g : PyData → Rho → Option Rho} (hg : OkG c tg g) (he : OkE c e f) (hs : ∀ env l, swapsWithSole [tg] e l env = pure false := by intro _ _; rfl) (hw : ∀ env, swappedStores [tg] e env = pure none := by intro _; rfl)
    (h1 : ∀ env, (assignEach [tg] env).map (·.2) = [assign tg env] := by intro _; rfl) : OkS c (.Assign [tg] e pos) (sUnp g f) := fun X gd hx r o k => by
  unfold sUnp at k
  split at k
  · rename_i d e1
    split at k
    · rename_i hc
      split at k
      · rename_i r' e2
        cases k
        obtain ⟨t, p1, p2⟩ := hg X gd
        refine ps_imp (ps_asg (he X gd r _ e1) p1 (hs X.env pos.line) (hw X.env) (h1 X.env)) fun D s H ⟨gh, He, q1, q2⟩ => ⟨q1.rv, fun v H1 s1 hv => ?_⟩
        have q3 := q1.step s1
        by_cases ci : imm d = true
        · obtain ⟨O, q3⟩ := q3
          exact p2 d r r' e2 gh He O H1 s v q3 (dp_tmono (mask_tsame fun a z => (q3.ow a z).2) d v ci hv) _ fun s' h => q2 s' H1 h
        · have n : noOwn r = true := by
            rcases Bool.or_eq_true_iff.mp hc with z | z
            · exact absurd z ci
            · exact z
          exact p2 d r r' e2 gh He _ H1 s v (q3.free n) (by rw [mask_no]; exact hv) _ fun s' h => q2 s' H1 h
      · cases k
    · cases k
  · cases k
theorem okS_unpS {tg : Expr} {g : PyData → Rho → Option Rho} (hg : OkG c tg g) (he : OkE c e f) (hs : ∀ env l, swapsWithSole [tg] e l env = pure false := by intro _ _; rfl) (hw : ∀ env : Env, env.scope = c.sc → swappedStores [tg] e env = pure none := by intro env h; cases env; simp only at h; subst h; rfl)
    (h1 : ∀ env, (assignEach [tg] env).map (·.2) = [assign tg env] := by intro _; rfl) : OkS c (.Assign [tg] e pos) (sUnp g f) := fun X gd hx r o k => by
  unfold sUnp at k
  split at k
  · rename_i d e1
    split at k
    · rename_i hc
      split at k
      · rename_i r' e2
        cases k
        obtain ⟨t, p1, p2⟩ := hg X gd
        refine ps_imp (ps_asg (he X gd r _ e1) p1 (hs X.env pos.line) (hw X.env gd.hsc) (h1 X.env)) fun D s H ⟨gh, He, q1, q2⟩ => ⟨q1.rv, fun v H1 s1 hv => ?_⟩
        have q3 := q1.step s1
        by_cases ci : imm d = true
        · obtain ⟨O, q3⟩ := q3
          exact p2 d r r' e2 gh He O H1 s v q3 (dp_tmono (mask_tsame fun a z => (q3.ow a z).2) d v ci hv) _ fun s' h => q2 s' H1 h
        · have n : noOwn r = true := by
            rcases Bool.or_eq_true_iff.mp hc with z | z
            · exact absurd z ci
            · exact z
          exact p2 d r r' e2 gh He _ H1 s v (q3.free n) (by rw [mask_no]; exact hv) _ fun s' h => q2 s' H1 h
      · cases k
    · cases k
  · cases k
/-! ### an own list is data from here on -/
def sFz (i : Nat) (g : CS) : CS := fun r => g (frz i r)
theorem okS_fz {st : Stmt} {g : CS} (i : Nat) (h : OkS c st g) : OkS c st (sFz i g) := fun X gd hx r o k =>
  ps_imp (h X gd hx _ o k) fun D s H ⟨gh, He, q1, q2⟩ => ⟨gh, He, q1.frz i, q2⟩
/-! ### xs.extend([..]) -/
variable {apos cpos : Pos}
def sExt (i : Nat) (f : Rho → Option (List PyData)) : CS := fun r => match r[i]? with
  | some (some (.own xs)) => match f r with
    | some ys => if imms ys && decide (xs.length + ys.length ≤ 100000) then some (.nx (r.set i (some (.own (xs ++ ys))))) else none
    | _ => none
  | _ => none
theorem okS_ext {f : Rho → Option (List PyData)} (i : Nat) (hN : c.N[i]? = some x) (hv : Vis c.sc x) (he : OkL c e f) (hs : ∀ env, starEach [e] env = [(false, eval e env)] := by intro _; rfl)
    (hfew : ∀ env, ((backTo cpos (starEach [e] env)).all (fun x => !x.1) && (backToKw cpos (keywordEach [] env)).all (fun x => x.1.isSome) && decide ([e].length + ([] : List Keyword).length + (if ([] : List Keyword).isEmpty then 0 else 1) < 30)) = true := by intro _; rfl)
    (hline : (apos.endLine == cpos.line) = true := by rfl) (hd : (x == ("__debug__" : Str)) = false := by decide) (hcd : (x == ("__classdict__" : Str)) = false := by decide) :
    OkS c (.Expr (.Call (.Attribute (.Name x px) "extend" apos) [e] [] cpos) pos) (sExt i f) := fun X gd hx r o k => by
  unfold sExt at k
  split at k
  · rename_i xs e1
    split at k
    · rename_i ys e2
      split at k
      · rename_i hc
        have hc' : imms ys = true ∧ xs.length + ys.length ≤ 100000 := by simpa using hc
        cases k
        refine ps_imp (ps_expr (pe_bm PySem.F.plainAttrs_list PySem.F.slot_list_extend PySem.F.type_list_extend mt_extend (pe_var (i := i) (by rw [gd.hN]; exact hN) (by rw [gd.hsc]; exact hv) hd hcd) (pa_cons (he X gd r _ e2) pa_nil (hs X.env)) rfl (hfew X.env) hline (hs X.env) rfl) rfl) fun D s H ⟨gh, He, ⟨O, q1⟩, q2⟩ => ?_
        obtain ⟨a, vs, h1, h2, h3, h4⟩ := q1.ov i xs e1
        refine ⟨_, h1, .inl ⟨rfl, _, SqL.of h3⟩, q1.rv, fun p zs H1 hp s1 hz hd => ?_⟩
        have q3 := q1.step s1
        obtain ⟨a', vs', h1', h2', h3', h4'⟩ := q3.ov i xs e1
        rw [h1] at h1'
        cases h1'
        refine ⟨a, p, vs', zs, rfl, rfl, h3', hz, by rw [dpa_len _ _ h4', dpa_len _ _ hd]; exact sz hc'.2, ?_⟩
        exact q2 _ _ ⟨O, q3.mut e1 h1 h2 (dpa_app _ _ _ _ h4' (dpa_tmono (mask_tsame fun a z => (q3.ow a z).2) ys zs hc'.1 hd))⟩
      · cases k
    · cases k
  · cases k
end
end Nm
namespace Nm
open PySem L2
/-! ### a walk within an expression -/
def OkV (c : C0) (tg iter : Expr) (f : Rho → Option (List PyData)) : Prop := ∀ X, Gd c X → ∀ r ds, f r = some ds → ∃ wi, PI X tg iter wi ∧
  ∀ s H, RV c.T X.K X.mg H s r → ∀ R : It → Hp → Prop, (∀ J H' gi, MonoP gi → Same H H' → gi H' → Wk X.K J gi ds → R J H') → wi s H R
section
variable {c : C0} {pos : Pos} {e : Expr} {f : Rho → Option W} {tg : Expr}
theorem wk_list {K : PySem.W.Frag} {a : Addr} {xs : List V} {ds : List PyData} (hl : xs.length = ds.length) : Wk K (Itl K a) (fun M => SqL K M a xs ∧ DpAll K M xs ds) ds := by
  refine ⟨fun i H O g hi => ?_, fun i H O x H' d hO g hd hy => ?_, fun H O g => ?_⟩
  · have hi' : i < xs.length := by omega
    exact ⟨xs, xs[i], mask_sub.seq g.1, List.getElem?_eq_getElem hi'⟩
  · obtain ⟨rfl, hy⟩ := hy
    refine ⟨Same.refl _, ?_⟩
    have e3 := hy xs (mask_sub.seq g.1)
    obtain ⟨d', h3, h4⟩ := dpa_getV _ _ i x g.2 e3
    rw [hd] at h3
    cases h3
    exact h4
  · exact ⟨xs, mask_sub.seq g.1, Nat.le_of_eq hl⟩
theorem wk_tup {K : PySem.W.Frag} {a : Addr} {xs : List V} {ds : List PyData} (hl : xs.length = ds.length) : Wk K (Itt K a) (fun M => SqT K M a xs ∧ DpAll K M xs ds) ds := by
  refine ⟨fun i H O g hi => ?_, fun i H O x H' d hO g hd hy => ?_, fun H O g => ?_⟩
  · have hi' : i < xs.length := by omega
    exact ⟨xs, xs[i], sqt_mono mask_sub g.1, List.getElem?_eq_getElem hi'⟩
  · obtain ⟨rfl, hy⟩ := hy
    refine ⟨Same.refl _, ?_⟩
    have e3 := hy xs (sqt_mono mask_sub g.1)
    obtain ⟨d', h3, h4⟩ := dpa_getV _ _ i x g.2 e3
    rw [hd] at h3
    cases h3
    exact h4
  · exact ⟨xs, sqt_mono mask_sub g.1, Nat.le_of_eq hl⟩
theorem wk_str {K : PySem.W.Frag} (z : Str) : Wk K (Its z) (fun _ => True) (chs z) := by
  refine ⟨fun i H O g hi => ?_, fun i H O x H' d hO g hd hy => ?_, fun H O g => ?_⟩
  · have hi' : i < z.cps.size := by simpa [chs] using hi
    exact hi'
  · obtain ⟨rfl, n, e2, rfl⟩ := hy
    refine ⟨Same.refl _, ?_⟩
    unfold chs at hd
    rw [List.getElem?_map] at hd
    have e3 : z.cps.toList[i]? = some n := by rw [Array.getElem?_toList]; exact e2
    rw [e3] at hd
    cases hd
    exact Dp.str _
  · show z.cps.size ≤ (chs z).length
    simp [chs]
theorem monoL {K : PySem.W.Frag} {a : Addr} {xs : List V} {ds : List PyData} : MonoP (fun M => SqL K M a xs ∧ DpAll K M xs ds) := fun A B e q => ⟨e.seq q.1, dpa_mono e _ _ q.2⟩
theorem monoT {K : PySem.W.Frag} {a : Addr} {xs : List V} {ds : List PyData} : MonoP (fun M => SqT K M a xs ∧ DpAll K M xs ds) := fun A B e q => ⟨sqt_mono e q.1, dpa_mono e _ _ q.2⟩
/-- the items of a list -/
def vL (f : Rho → Option W) : Rho → Option (List PyData) := fun r => match f r with
  | some (.d (.list ds)) => some ds
  | _ => none
def vT' (f : Rho → Option W) : Rho → Option (List PyData) := fun r => match f r with
  | some (.d (.tuple ds)) => some ds
  | _ => none
def vC (f : Rho → Option W) : Rho → Option (List PyData) := fun r => match f r with
  | some (.d (.str z)) => some (chs z)
  | _ => none
theorem okV_list (he : OkE c e f) : OkV c tg e (vL f) := fun X gd r ds k => by
  unfold vL at k
  split at k
  · rename_i ds' e1
    cases k
    refine ⟨_, pi_list (he X gd r _ e1), fun s H q1 R k => ⟨q1, fun v H1 s1 hv => ?_⟩⟩
    cases hv with
    | lst hs ha => exact ⟨_, rfl, ⟨_, hs⟩, k _ H1 _ monoL s1 ⟨hs, ha⟩ (wk_list (dpa_len _ _ ha))⟩
  · cases k
theorem okV_tup (he : OkE c e f) : OkV c tg e (vT' f) := fun X gd r ds k => by
  unfold vT' at k
  split at k
  · rename_i ds' e1
    cases k
    refine ⟨_, pi_tup (he X gd r _ e1), fun s H q1 R k => ⟨q1, fun v H1 s1 hv => ?_⟩⟩
    cases hv with
    | tup hs ha => exact ⟨_, rfl, ⟨_, hs⟩, k _ H1 _ monoT s1 ⟨hs, ha⟩ (wk_tup (dpa_len _ _ ha))⟩
  · cases k
theorem okV_str (he : OkE c e f) : OkV c tg e (vC f) := fun X gd r ds k => by
  unfold vC at k
  split at k
  · rename_i z e1
    cases k
    exact ⟨_, pi_str (he X gd r _ e1), fun s H q1 R k => ⟨q1, fun v H1 s1 hv => ⟨z, str_of hv, k (Its z) H1 (fun _ => True) trueMono s1 trivial (wk_str z)⟩⟩⟩
  · cases k
variable {a b : Expr} {fa fb : Rho → Option W}
theorem okV_rng1 {p : Pos} (hb : ("range" : Str) ∈ c.T.bl) (hk : c.sc.names.lookup ("range" : Str) = some .globalImplicit) (ha : OkE c a fa) (hs : ∀ env, starEach [a] env = [(false, eval a env)] := by intro _; rfl) : OkV c tg (.Call (.Name "range" p) [a] [] pos) (itR1 fa) := fun X gd r ds k => by
  unfold itR1 at k
  split at k
  · rename_i j e1
    split at k
    · rename_i hc
      cases k
      refine ⟨_, pi_range1 ((gd.kind _).trans hk) (gd.tab.bl _ hb) (pa_cons (ha X gd r _ e1) pa_nil (hs X.env)) (hs X.env), fun s H q1 R kk => ⟨q1, fun v H1 s1 hv => ?_⟩⟩
      obtain rfl := int_of hv
      exact ⟨j, rfl, hc.1, hc.2, kk _ H1 (fun _ => True) trueMono s1 trivial (wk_rng (fun i H hi => hi) (fun i H x H' hy => ⟨hy.1, by rw [hy.2]; simp⟩) (fun H => Nat.le_refl _))⟩
    · cases k
  · cases k
theorem okV_rng2 {p : Pos} (hb : ("range" : Str) ∈ c.T.bl) (hk : c.sc.names.lookup ("range" : Str) = some .globalImplicit) (ha : OkE c a fa) (hb' : OkE c b fb) (hs : ∀ env, starEach [a, b] env = [(false, eval a env), (false, eval b env)] := by intro _; rfl) (hs2 : ∀ env, starEach [b] env = [(false, eval b env)] := by intro _; rfl) : OkV c tg (.Call (.Name "range" p) [a, b] [] pos) (itR2 fa fb) := fun X gd r ds k => by
  unfold itR2 at k
  split at k
  · rename_i i e1
    split at k
    · rename_i j e2
      split at k
      · rename_i hc
        cases k
        have h1 : starEach [a, b] X.env = (false, eval a X.env) :: starEach [b] X.env := by rw [hs, hs2]
        refine ⟨_, pi_range2 ((gd.kind _).trans hk) (gd.tab.bl _ hb) (pa_cons (ha X gd r _ e1) (pa_cons (hb' X gd r _ e2) pa_nil (hs2 X.env)) h1) (hs X.env) (hs2 X.env), fun s H q1 R kk => ⟨q1, fun v H1 s1 hv => ⟨rv_mono s1 q1, fun u H2 s2 hu => ?_⟩⟩⟩
        obtain rfl := int_of hv
        obtain rfl := int_of hu
        exact ⟨i, j, rfl, hc, kk _ H2 (fun _ => True) trueMono (s1.trans s2) trivial (wk_rng (fun i H hi => hi) (fun i H x H' hy => ⟨hy.1, by rw [hy.2]; simp⟩) (fun H => Nat.le_refl _))⟩
      · cases k
    · cases k
  · cases k
/-! ### for x in a list -/
/-- by its place: a list that isn't one's own -/
def itN (i : Nat) : Rho → Option (List PyData) := fun r => match r[i]? with
  | some (some (.w (.d (.list ds)))) => some ds
  | _ => none
theorem okI_lstN {x : Str} {px : Pos} (i : Nat) (hN : c.N[i]? = some x) (hv : Vis c.sc x) (hd : (x == ("__debug__" : Str)) = false := by decide) (hcd : (x == ("__classdict__" : Str)) = false := by decide) : OkIt c tg (.Name x px) (itN i) := fun X gd r ds k => by
  unfold itN at k
  split at k
  · rename_i ds' e1
    cases k
    refine ⟨_, pi_list (pe_var (i := i) (by rw [gd.hN]; exact hN) (by rw [gd.hsc]; exact hv) hd hcd), fun gh He s H q1 R k => ?_⟩
    obtain ⟨O, q1⟩ := q1
    obtain ⟨v, h1, h2⟩ := q1.wv i _ e1
    cases h2 with
    | lst hs ha => exact ⟨_, h1, _, rfl, ⟨_, mask_sub.seq hs⟩, k _ H _ monoL (Same.refl H) (RS.ghost q1 monoL ⟨hs, ha⟩) (wk_list (dpa_len _ _ ha))⟩
  · cases k
/-- a list, where nothing is one's own -/
def itL (f : Rho → Option W) : Rho → Option (List PyData) := fun r => match f r with
  | some (.d (.list ds)) => if noOwn r then some ds else none
  | _ => none
theorem okI_lst (he : OkE c e f) : OkIt c tg e (itL f) := fun X gd r ds k => by
  unfold itL at k
  split at k
  · rename_i ds' e1
    split at k
    · rename_i hn
      cases k
      refine ⟨_, pi_list (he X gd r _ e1), fun gh He s H q1 R k => ⟨q1.rv, fun v H1 s1 hv => ?_⟩⟩
      cases hv with
      | lst hs ha => exact ⟨_, rfl, ⟨_, hs⟩, k _ H1 _ monoL s1 (RS.ghost ((q1.step s1).free hn) monoL (by rw [mask_no]; exact ⟨hs, ha⟩)) (wk_list (dpa_len _ _ ha))⟩
    · cases k
  · cases k
/-- a new list of plain things -/
def itF (f : Rho → Option (List PyData)) : Rho → Option (List PyData) := fun r => match f r with
  | some ds => if imms ds then some ds else none
  | _ => none
theorem okI_new {f : Rho → Option (List PyData)} (he : OkL c e f) : OkIt c tg e (itF f) := fun X gd r ds k => by
  unfold itF at k
  split at k
  · rename_i ds' e1
    split at k
    · rename_i hn
      cases k
      refine ⟨_, pi_list (he X gd r _ e1), fun gh He s H q1 R k => ⟨q1.rv, fun p vs H1 hp s1 h1 hd => ?_⟩⟩
      obtain ⟨O, q1⟩ := q1
      have q2 := q1.step s1
      have np : ¬ O p := fun z => by
        obtain ⟨_, ys, q, _⟩ := q1.ow p z
        rw [hp] at q; cases q
      exact ⟨p, rfl, ⟨_, SqL.of h1⟩, k _ H1 _ monoL s1 (RS.ghost q2 monoL ⟨SqL.of (by rw [mask_out np]; exact h1), dpa_tmono (mask_tsame fun a z => (q2.ow a z).2) _ _ hn hd⟩) (wk_list (dpa_len _ _ hd))⟩
    · cases k
  · cases k
end
/-! ### comprehensions -/
def cBk (c : C0) (scope : Scope) : C0 := ⟨c.T, c.N, c.F, c.k, relS scope c.sc, false, c.ga, c.qn⟩
theorem Gd.blk {c : C0} {X : Cx} (g : Gd c X) {scope : Scope} (hk : scope.kind = .function) (s : Shared) (H : Hp) (C : Addr) (cl : List (Str × Addr)) (fp : List Addr) : Gd (cBk c scope) (X.blk s H scope (compEnvC scope cl C X.env) fp) where
  hN := g.hN
  hsc := by
    show relabel scope X.env = relS scope c.sc
    rw [← g.hsc]
    rfl
  calm := g.calm
  room := g.room
  nd := g.nd
  tab := g.tab
  cal := g.cal
  clo := g.clo
  fn := fun z => by cases z
  fk := hk
  gs := g.gs
  sk := fun z => by cases z
  lw := fun z => by cases z
def wipeR (r : Rho) : List Nat → Rho
  | [] => r
  | v :: vs => (wipeR r vs).set v none
theorem wipe_get (σ : L2.St) (j : Nat) : ∀ vs : List Nat, (wipe σ vs)[j]? = if j ∈ vs then σ[j]?.map (fun _ => none) else σ[j]?
  | [] => by simp [wipe]
  | v :: vs => by
    unfold wipe
    rw [List.getElem?_set]
    by_cases e : v = j
    · subst e
      rw [if_pos rfl, if_pos List.mem_cons_self, wipe_length]
      by_cases h : v < σ.length
      · rw [if_pos h, List.getElem?_eq_getElem h]; rfl
      · rw [if_neg h, List.getElem?_eq_none (by omega)]; rfl
    · rw [if_neg e, wipe_get σ j vs]
      have : (j ∈ v :: vs) ↔ j ∈ vs := by rw [List.mem_cons]; exact ⟨fun z => z.resolve_left (Ne.symm e), .inr⟩
      simp only [this]
theorem wipeR_get (r : Rho) (j : Nat) : ∀ vs : List Nat, (wipeR r vs)[j]? = if j ∈ vs then r[j]?.map (fun _ => none) else r[j]?
  | [] => by simp [wipeR]
  | v :: vs => by
    have hl : ∀ vs : List Nat, (wipeR r vs).length = r.length := by
      intro vs
      induction vs with
      | nil => rfl
      | cons v vs ih => unfold wipeR; rw [List.length_set, ih]
    unfold wipeR
    rw [List.getElem?_set]
    by_cases e : v = j
    · subst e
      rw [if_pos rfl, if_pos List.mem_cons_self, hl]
      by_cases h : v < r.length
      · rw [if_pos h, List.getElem?_eq_getElem h]; rfl
      · rw [if_neg h, List.getElem?_eq_none (by omega)]; rfl
    · rw [if_neg e, wipeR_get r j vs]
      have : (j ∈ v :: vs) ↔ j ∈ vs := by rw [List.mem_cons]; exact ⟨fun z => z.resolve_left (Ne.symm e), .inr⟩
      simp only [this]
theorem wipeR_length (r : Rho) : ∀ vs : List Nat, (wipeR r vs).length = r.length
  | [] => rfl
  | v :: vs => by unfold wipeR; rw [List.length_set, wipeR_length r vs]
theorem wipe_idem (σ : L2.St) (vs : List Nat) : wipe (wipe σ vs) vs = wipe σ vs := List.ext_getElem? fun j => by
  rw [wipe_get, wipe_get]
  split
  · cases σ[j]? <;> rfl
  · rfl
theorem wipe_set (σ : L2.St) (i : Nat) (v : Option V) (vs : List Nat) (h : i ∈ vs) : wipe (σ.set i v) vs = wipe σ vs := List.ext_getElem? fun j => by
  rw [wipe_get, wipe_get]
  split
  · rw [List.getElem?_set]
    split
    · rename_i e
      subst e
      split
      · rename_i hl; rw [List.getElem?_eq_getElem hl]; rfl
      · rename_i hl; rw [List.getElem?_eq_none (by omega)]
    · rfl
  · rename_i hn
    rw [List.getElem?_set_ne (fun e => hn (by rw [← e]; exact h))]
section
variable {T : Tab} {K : PySem.W.Frag} {mg : Str → Option Value} {H : Hp} {s : L2.St} {r : Rho}
theorem RV.wipe (h : RV T K mg H s r) (vs : List Nat) : RV T K mg H (L2.wipe s vs) (wipeR r vs) := ⟨by rw [wipe_length, wipeR_length]; exact h.1, (fun i x q => by
  have e : (wipeR r vs)[i]? = r[i]? ∧ i ∉ vs := by
    rw [wipeR_get]
    by_cases hi : i ∈ vs
    · exfalso
      unfold rd at q
      rw [wipeR_get, if_pos hi] at q
      cases hr : r[i]? <;> rw [hr] at q <;> cases q
    · exact ⟨by rw [if_neg hi], hi⟩
  have q' : rd r i = some x := by unfold rd at q ⊢; rw [e.1] at q; exact q
  obtain ⟨v, h1, h2⟩ := h.2.1 i x q'
  exact ⟨v, by rw [wipe_get, if_neg e.2]; exact h1, h2⟩), h.2.2⟩
theorem RV.set (h : RV T K mg H s r) {v : V} {w : W} (q : Rw T K mg H v w) (i : Nat) : RV T K mg H (s.set i (some v)) (r.set i (some (.w w))) := ⟨by rw [List.length_set, List.length_set]; exact h.1, (fun j x e => by
  by_cases hj : j = i
  · subst hj
    by_cases hl : j < r.length
    · have : rd (r.set j (some (.w w))) j = some w := by unfold rd; rw [List.getElem?_set_self hl]
      rw [this] at e
      cases e
      exact ⟨v, List.getElem?_set_self (by rw [h.1]; exact hl), q⟩
    · have : rd (r.set j (some (.w w))) j = none := by unfold rd; rw [List.getElem?_eq_none (by simp; omega)]
      rw [this] at e
      cases e
  · have : rd (r.set i (some (.w w))) j = rd r j := by unfold rd; rw [List.getElem?_set_ne (Ne.symm hj)]
    rw [this] at e
    rw [List.getElem?_set_ne (Ne.symm hj)]
    exact h.2.1 j x e), h.2.2⟩
end
/-- a comprehension's target -/
def OkGe (c : C0) (tg : Expr) (vs : List Nat) (g : PyData → Rho → Option Rho) : Prop := ∀ X, Gd c X → ∃ t, PG X tg t ∧ (∀ Y, Gd c Y → Y.K = X.K → PG Y tg t) ∧ ∀ d r r', g d r = some r' → ∀ H s x, RV c.T X.K X.mg H s r → Dp X.K H x d →
  ∀ Q : L2.St → Hp → Prop, (∀ s', RV c.T X.K X.mg H s' r' → L2.wipe s' vs = L2.wipe s vs → Q s' H) → t x s H Q
section
variable {c : C0} {pos : Pos} {x : Str} {px : Pos}
theorem okGe_name (i : Nat) {vs : List Nat} (hv : i ∈ vs) (hN : c.N[i]? = some x) (hl : Loc c.sc x) (hf : c.fa = true ∨ c.sc.names.lookup x = some .local := by first | exact .inl rfl | exact .inr rfl) : OkGe c (.Name x px) vs (gN i) := fun X gd =>
  ⟨_, pg_name (i := i) (by rw [gd.hN]; exact gd.nd) (by rw [gd.hN]; exact hN) (by rw [gd.hsc]; exact hl) (gd.st hf), fun Y gy _ => pg_name (i := i) (by rw [gy.hN]; exact gy.nd) (by rw [gy.hN]; exact hN) (by rw [gy.hsc]; exact hl) (gy.st hf), fun d r r' e H s v h1 h2 Q k => by
    cases e
    exact k _ (h1.set (w := .d d) h2 i) (wipe_set _ _ _ _ hv)⟩
/-- several names -/
def OkGse (c : C0) (es : List Expr) (vs is : List Nat) : Prop := ∃ t, (∀ X, Gd c X → PGs X es t) ∧ ∀ X, Gd c X → ∀ ds r r', setNs is ds r = some r' → ∀ H s us, RV c.T X.K X.mg H s r → DpAll X.K H us ds →
  ∀ Q : L2.St → Hp → Prop, (∀ s', RV c.T X.K X.mg H s' r' → L2.wipe s' vs = L2.wipe s vs → Q s' H) → t us s H Q
theorem okGse_nil {vs : List Nat} : OkGse c [] vs [] := ⟨_, fun X gd => pgs_nil, fun X gd ds r r' e H s us h1 h2 Q k => by
  cases ds with
  | nil => cases e; cases h2; exact ⟨rfl, k s h1 rfl⟩
  | cons _ _ => cases e⟩
theorem okGse_cons {es : List Expr} {is vs : List Nat} (i : Nat) (hv : i ∈ vs) (hN : c.N[i]? = some x) (hl : Loc c.sc x) (hr : OkGse c es vs is) (hf : c.fa = true ∨ c.sc.names.lookup x = some .local := by first | exact .inl rfl | exact .inr rfl)
    (hs : ∀ env, (assignEach (.Name x px :: es) env).map (·.2) = assign (.Name x px) env :: (assignEach es env).map (·.2) := by intro _; rfl) : OkGse c (.Name x px :: es) vs (i :: is) := by
  obtain ⟨t, h1, h2⟩ := hr
  refine ⟨_, fun X gd => pgs_cons (pg_name (i := i) (by rw [gd.hN]; exact gd.nd) (by rw [gd.hN]; exact hN) (by rw [gd.hsc]; exact hl) (gd.st hf)) (h1 X gd) (hs X.env), fun X gd ds r r' e H s us q1 q2 Q k => ?_⟩
  cases ds with
  | nil => cases e
  | cons d ds =>
    cases q2 with
    | cons q2 q3 => exact ⟨_, _, rfl, h2 X gd ds _ _ e H _ _ (q1.set (w := .d d) q2 i) q3 Q fun s' h z => k s' h (z.trans (wipe_set _ _ _ _ hv))⟩
theorem okGe_ns {k} {p1 : Pos} {es : List Expr} {vs is : List Nat} (h : OkGse c es vs is) (hn : ∀ env, (assignEach es env).length = is.length := by intro _; rfl) (hst : ∀ env, (assignEach es env).findIdx? (·.1) = none := by intro _; rfl) : OkGe c (.Tuple es k p1) vs (gNs is) := fun X gd => by
  obtain ⟨t, h1, h2⟩ := h
  refine ⟨_, pg_or (pg_tup gd.calm (h1 X gd) (hn X.env) (hst X.env)) (pg_lst gd.calm (h1 X gd) (hn X.env) (hst X.env)), fun Y gy e => ?_, fun d r r' e H s v q1 q2 Q kk => ?_⟩
  · have := pg_or (pg_tup (pos := p1) (k := k) gy.calm (h1 Y gy) (hn Y.env) (hst Y.env)) (pg_lst (pos := p1) (k := k) gy.calm (h1 Y gy) (hn Y.env) (hst Y.env))
    rw [e] at this
    exact this
  · have ln : ∀ (is : List Nat) (ds : List PyData) (r r' : Rho), setNs is ds r = some r' → ds.length = is.length := by
      intro is
      induction is with
      | nil => intro ds r r' e; cases ds with | nil => rfl | cons _ _ => cases e
      | cons i is ih => intro ds r r' e; cases ds with | nil => cases e | cons d ds => rw [List.length_cons, List.length_cons, ih ds _ _ e]
    unfold gNs at e
    split at e
    · rename_i ds
      cases q2 with
      | tup hs ha => exact .inl ⟨_, _, rfl, hs, by rw [dpa_len _ _ ha]; exact ln _ _ _ _ e, h2 X gd ds r r' e H s _ q1 ha Q kk⟩
    · rename_i ds
      cases q2 with
      | lst hs ha => exact .inr ⟨_, _, rfl, hs, by rw [dpa_len _ _ ha]; exact ln _ _ _ _ e, h2 X gd ds r r' e H s _ q1 ha Q kk⟩
    · cases e
end
/-- the ifs -/
def OkTs (c : C0) (ifs : List Expr) (q : Rho → Option Bool) : Prop := ∀ X, Gd c X → ∀ r b, q r = some b → PTs X ifs (tQ c.T X r b)
def qYes : Rho → Option Bool := fun _ => some true
def compW (g : PyData → Rho → Option Rho) (q : Rho → Option Bool) (f : Rho → Option W) (r : Rho) : List PyData → Option (List PyData)
  | [] => some []
  | d :: ds => match g d r with
    | some r1 => match q r1 with
      | some true => match f r1 with
        | some (.d x) => match compW g q f r ds with
          | some xs => some (x :: xs)
          | none => none
        | _ => none
      | some false => compW g q f r ds
      | none => none
    | none => none
def lComp (vs : List Nat) (it : Rho → Option (List PyData)) (g : PyData → Rho → Option Rho) (q : Rho → Option Bool) (f : Rho → Option W) : Rho → Option (List PyData) := fun r => match it r with
  | some ds => match compW g q f (wipeR r vs) ds with
    | some xs => if imms xs && decide (xs.length ≤ 100000) then some xs else none
    | none => none
  | none => none
section
variable {c : C0} {pos : Pos} {elt tg iter e : Expr} {ifs : List Expr} {scope : Scope} {it : Rho → Option (List PyData)} {g : PyData → Rho → Option Rho} {q : Rho → Option Bool} {f : Rho → Option W}
theorem okTs_nil : OkTs c [] qYes := fun X gd r b h => by
  cases h
  exact ⟨fun pins s z H Q I h => pts_nil.run pins s z H Q I (h.2 H (Same.refl H))⟩
theorem okTs_one {e : Expr} (h : OkT c e q) : OkTs c [e] q := fun X gd r b k => pts_one (h X gd r b k)
theorem pts_all {X : Cx} {T : Tab} (h : ∀ r b, q r = some b → PTs X ifs (tQ T X r b)) : PTs X ifs (fun s H Q => ∃ r b, q r = some b ∧ tQ T X r b s H Q) := ⟨fun pins s z H Q I k => by
  obtain ⟨r, b, e, k⟩ := k
  exact (h r b e).run pins s z H Q I k⟩
theorem pe_all {X : Cx} {T : Tab} (h : ∀ r w, f r = some w → PE X e (tD T X r w)) : PE X e (fun s H Q => ∃ r w, f r = some w ∧ tD T X r w s H Q) := ⟨fun pins s z H Q I k => by
  obtain ⟨r, b, e, k⟩ := k
  exact (h r b e).run pins s z H Q I k⟩
structure LcOk (c : C0) (X : Cx) (elt tg iter : Expr) (ifs : List Expr) (scope : Scope) (own : List (Str × Nat)) (r : Rho) (xs : List PyData) : Prop where
  ex : ∃ wi g tt te, PI X tg iter wi ∧ (∀ (s : Shared) (H : Hp) (C : Addr) (cl : List (Str × Addr)) (fp : List Addr), PG (X.blk s H scope (compEnvC scope cl C X.env) fp) tg g) ∧ (∀ (s : Shared) (H : Hp) (C : Addr) (cl : List (Str × Addr)) (fp : List Addr), PTs (X.blk s H scope (compEnvC scope cl C X.env) fp) ifs tt) ∧
    (∀ (s : Shared) (H : Hp) (C : Addr) (cl : List (Str × Addr)) (fp : List Addr), PE (X.blk s H scope (compEnvC scope cl C X.env) fp) elt te) ∧ ∀ s H Q, tL c.T X r xs s H Q → tLc wi g tt te (own.map (·.2)) s H Q
theorem comp_core {N : List Str} {sc : Scope} (own : List (Str × Nat)) (hi : OkV c tg iter it) (hg : OkGe (cBk c scope) tg (own.map (·.2)) g) (ht : OkTs (cBk c scope) ifs q) (he : OkE (cBk c scope) elt f) (hN : c.N = N) (hsc : c.sc = sc) (ok : blkC N sc scope own = true)
    {X : Cx} (gd : Gd c X) {r : Rho} {xs : List PyData} (k : lComp (own.map (·.2)) it g q f r = some xs) : LcOk c X elt tg iter ifs scope own r xs := by
  unfold lComp at k
  split at k
  · rename_i ds e1
    split at k
    · rename_i xs' e2
      split at k
      · rename_i hc
        have hc' : imms xs' = true ∧ xs'.length ≤ 100000 := by simpa using hc
        cases k
        obtain ⟨wi, pI, hI⟩ := hi X gd r ds e1
        have bk : BlkOk c.N c.sc scope own := by rw [hN, hsc]; exact blkOk_by ok
        have gb := fun s H C cl fp => gd.blk bk.kind s H C cl fp
        obtain ⟨tg', p1, p2, p3⟩ := hg _ (gb X.s_0 X.H_0 0 [] [])
        refine ⟨wi, tg', fun s H Q => ∃ r b, q r = some b ∧ tQ c.T X r b s H Q, fun s H Q => ∃ r w, f r = some w ∧ tD c.T X r w s H Q, pI, (fun s H C cl fp => p2 _ (gb s H C cl fp) rfl), (fun s H C cl fp => pts_all (T := c.T) fun r b z => ht _ (gb s H C cl fp) r b z), (fun s H C cl fp => pe_all (T := c.T) fun r w z => he _ (gb s H C cl fp) r w z), fun s H Q z => ?_⟩
        refine hI s H z.1 _ fun J H1 gi hm s1 hgi wk => ?_
        intro D hD
        have em : ∀ (H : Hp) (o : HO), mask (upd H D o) (fun b => b = D) = mask H (fun b => b = D) := fun H o => funext fun b => by
          by_cases qb : b = D
          · rw [mask_in (O := fun b => b = D) qb, mask_in (O := fun b => b = D) qb]
          · rw [mask_out (O := fun b => b = D) qb, mask_out (O := fun b => b = D) qb, upd_ne qb]
        have mm : ∀ {H H' : Hp} {vs : List V}, Same H H' → H D = some (.lst vs) → Same (mask H (fun b => b = D)) (mask H' (fun b => b = D)) := fun s e => mask_mono s fun a (z : a = D) => ⟨.lst _, z ▸ e, trivial⟩
        have sub0 : Same H1 (mask H1 (fun b => b = D)) := .of fun b o qb => by rw [mask_out (fun z => by rw [z, hD] at qb; cases qb)]; exact qb
        refine ⟨fun i m H => m = ds.length - i ∧ i ≤ ds.length ∧ Same H1 (mask H (fun b => b = D)) ∧ ∃ acc pre suf, H D = some (.lst acc) ∧ DpAll X.K (mask H (fun b => b = D)) acc pre ∧ compW g q f (wipeR r (own.map (·.2))) (ds.drop i) = some suf ∧ pre ++ suf = xs, ⟨ds.length, by simp, Nat.zero_le _, by rw [em]; exact sub0, [], [], xs, upd_same, .nil, e2, rfl⟩, ?_⟩
        rintro i m H2 ⟨rfl, hil, sm, acc, pre, suf, hD2, hA, hcw, hps⟩
        have hg2 : gi (mask H2 (fun b => b = D)) := hm _ _ sm hgi
        by_cases hlt : i < ds.length
        · rw [List.drop_eq_getElem_cons hlt] at hcw
          unfold compW at hcw
          split at hcw
          · rename_i r1 e3
            refine .inr ⟨wk.go i H2 _ hg2 hlt, fun H' => Same H1 (mask H' (fun b => b = D)) ∧ ∃ acc pre suf, H' D = some (.lst acc) ∧ DpAll X.K (mask H' (fun b => b = D)) acc pre ∧ compW g q f (wipeR r (own.map (·.2))) (ds.drop (i + 1)) = some suf ∧ pre ++ suf = xs, fun H' hh => ⟨ds.length - (i + 1), by omega, rfl, hlt, hh⟩, fun x H3 hy => ?_⟩
            obtain ⟨s3, hd⟩ := wk.yl i H2 (fun b => b = D) x H3 ds[i] (fun a z => by rw [z, hD2]; simp) hg2 (List.getElem?_eq_getElem hlt) hy
            have sm3 : Same H1 (mask H3 (fun b => b = D)) := sm.trans (mm s3 hD2)
            have rv3 : RV c.T X.K X.mg H3 (L2.wipe s (own.map (·.2))) (wipeR r (own.map (·.2))) := (rv_mono (s1.trans (sm3.trans mask_sub)) z.1).wipe _
            refine p3 _ _ _ e3 H3 _ x rv3 (dp_mono mask_sub _ _ hd) _ fun s' rv4 ew => ⟨ew.trans (wipe_idem _ _), ?_⟩
            split at hcw
            · rename_i e4
              refine ⟨r1, true, e4, rv4, fun H4 s4 => iteT ?_⟩
              split at hcw
              · rename_i y e5
                split at hcw
                · rename_i ys e6
                  cases hcw
                  refine ⟨r1, _, e5, rv_mono s4 rv4, fun v H5 s5 hv => ⟨acc, s5.at (s4.at (s3.at hD2)), ?_, ?_, ?_⟩⟩
                  · have : acc.length < xs.length := by rw [dpa_len _ _ hA, ← hps]; simp
                    exact Nat.lt_of_lt_of_le this (sz hc'.2)
                  · rw [em]; exact sm3.trans (mm (s4.trans s5) (s3.at hD2))
                  · have hy' : imm y = true := imms_mem.mp hc'.1 y (by rw [← hps]; simp)
                    refine ⟨acc ++ [v], pre ++ [y], ys, upd_same, ?_, e6, by rw [← hps]; simp⟩
                    rw [em]
                    exact dpa_app _ _ _ _ (dpa_mono (mm (s3.trans (s4.trans s5)) hD2) _ _ hA) (.cons (dp_tmono (mask_tsame fun a z => by rw [z]; exact ⟨_, s5.at (s4.at (s3.at hD2)), trivial⟩) y v hy' hv) .nil)
                · cases hcw
              · cases hcw
            · rename_i e4
              refine ⟨r1, false, e4, rv4, fun H4 s4 => iteF ⟨sm3.trans (mm s4 (s3.at hD2)), acc, pre, suf, s4.at (s3.at hD2), dpa_mono (mm (s3.trans s4) hD2) _ _ hA, hcw, hps⟩⟩
            · cases hcw
          · cases hcw
        · have e : i = ds.length := by omega
          subst e
          rw [List.drop_length] at hcw
          cases hcw
          rw [List.append_nil] at hps
          subst hps
          refine .inl ⟨wk.st H2 _ hg2, z.2 D acc H2 (s1.free hD) (s1.trans (sm.trans mask_sub)) hD2 (dpa_mono mask_sub _ _ hA)⟩
      · cases k
    · cases k
  · cases k
theorem ok_comp {N : List Str} {sc : Scope} (own : List (Str × Nat)) (hN : c.N = N) (hsc : c.sc = sc) (hi : OkV c tg iter it) (hg : OkGe (cBk c scope) tg (own.map (·.2)) g) (ht : OkTs (cBk c scope) ifs q) (he : OkE (cBk c scope) elt f) (ok : blkC N sc scope own = true) (hs : ∀ env x, foldedSetIterable iter env x = pure x := by intro _ _; rfl) :
    OkL c (.ListComp elt [⟨tg, iter, ifs, 0⟩] scope pos) (lComp (own.map (·.2)) it g q f) := fun X gd r xs k => by
  obtain ⟨wi, g', tt, te, h1, h2, h3, h4, h5⟩ := (comp_core own hi hg ht he hN hsc ok gd k).ex
  have bk : BlkOk c.N c.sc scope own := by rw [hN, hsc]; exact blkOk_by ok
  exact pe_imp (pe_lc (own := own) gd.calm (by rw [gd.hN]; exact gd.nd) h1 (by rw [gd.hN, gd.hsc]; exact bk) h2 h3 h4 (hs X.env)) h5
/-- x = [..] -/
theorem okS_asgLc {N : List Str} {sc : Scope} {x : Str} {px spos : Pos} (own : List (Str × Nat)) (i : Nat) (hNx : c.N[i]? = some x) (hl : c.sc.names.lookup x = some .local) (hln : (px.line == pos.line) = true) (hany : (scope.names.any fun (n, k) => n == x && (k == .local || k == .cell)) = false)
    (hN : c.N = N) (hsc : c.sc = sc) (hi : OkV c tg iter it) (hg : OkGe (cBk c scope) tg (own.map (·.2)) g) (ht : OkTs (cBk c scope) ifs q) (he : OkE (cBk c scope) elt f) (ok : blkC N sc scope own = true) (hs : ∀ env x, foldedSetIterable iter env x = pure x := by intro _ _; rfl) :
    OkS c (.Assign [.Name x px] (.ListComp elt [⟨tg, iter, ifs, 0⟩] scope pos) spos) (sAsgL i (lComp (own.map (·.2)) it g q f)) := fun X gd hx r o k => by
  unfold sAsgL at k
  split at k
  · rename_i xs e1
    split at k
    · rename_i hc
      cases k
      obtain ⟨wi, g', tt, te, h1, h2, h3, h4, h5⟩ := (comp_core own hi hg ht he hN hsc ok gd e1).ex
      have bk : BlkOk c.N c.sc scope own := by rw [hN, hsc]; exact blkOk_by ok
      refine ps_imp (ps_setLc (i := i) (own := own) gd.calm (by rw [gd.hN]; exact gd.nd) (by rw [gd.hN]; exact hNx) (by rw [gd.hsc]; exact hl) (sw_true gd.fk (by rw [gd.hsc]; exact hl) hln hany) h1 (by rw [gd.hN, gd.hsc]; exact bk) h2 h3 h4 (hs X.env)) fun D s H ⟨gh, He, q1, q2⟩ => ?_
      exact h5 s H _ ⟨q1.rv, fun p vs H1 hp s1 h' hd => q2 _ _ (q1.setl hp s1 h' hd hc i)⟩
    · cases k
  · cases k
theorem okS_asgOc {N : List Str} {sc : Scope} {x : Str} {px spos : Pos} (own : List (Str × Nat)) (i : Nat) (hNx : c.N[i]? = some x) (hl : c.sc.names.lookup x = some .local) (hln : (px.line == pos.line) = true) (hany : (scope.names.any fun (n, k) => n == x && (k == .local || k == .cell)) = false)
    (hN : c.N = N) (hsc : c.sc = sc) (hi : OkV c tg iter it) (hg : OkGe (cBk c scope) tg (own.map (·.2)) g) (ht : OkTs (cBk c scope) ifs q) (he : OkE (cBk c scope) elt f) (ok : blkC N sc scope own = true) (hs : ∀ env x, foldedSetIterable iter env x = pure x := by intro _ _; rfl) :
    OkS c (.Assign [.Name x px] (.ListComp elt [⟨tg, iter, ifs, 0⟩] scope pos) spos) (sAsgO i (lComp (own.map (·.2)) it g q f)) := fun X gd hx r o k => by
  unfold sAsgO at k
  split at k
  · rename_i xs e1
    split at k
    · rename_i hc
      cases k
      obtain ⟨wi, g', tt, te, h1, h2, h3, h4, h5⟩ := (comp_core own hi hg ht he hN hsc ok gd e1).ex
      have bk : BlkOk c.N c.sc scope own := by rw [hN, hsc]; exact blkOk_by ok
      refine ps_imp (ps_setLc (i := i) (own := own) gd.calm (by rw [gd.hN]; exact gd.nd) (by rw [gd.hN]; exact hNx) (by rw [gd.hsc]; exact hl) (sw_true gd.fk (by rw [gd.hsc]; exact hl) hln hany) h1 (by rw [gd.hN, gd.hsc]; exact bk) h2 h3 h4 (hs X.env)) fun D s H ⟨gh, He, q1, q2⟩ => ?_
      exact h5 s H _ ⟨q1.rv, fun p vs H1 hp s1 h' hd => q2 _ _ (q1.seto hp s1 h' hd hc i)⟩
    · cases k
  · cases k
/-! ### all, any, list, tuple, sum -/
def bls : List PyData → Option (List Bool)
  | [] => some []
  | .bool b :: ds => match bls ds with
    | some bs => some (b :: bs)
    | none => none
  | _ => none
theorem bls_of {K : PySem.W.Frag} {H : Hp} : ∀ {ds : List PyData} {bs : List Bool} {vs : List V}, bls ds = some bs → DpAll K H vs ds → vs = bs.map V.bl
  | [], bs, _, h, k => by cases h; cases k; rfl
  | .bool b :: ds, bs, _, h, k => by
    unfold bls at h
    split at h
    · rename_i bs' e
      cases h
      cases k with
      | cons k1 k2 =>
        cases k1
        rw [bls_of e k2]; rfl
    · cases h
  | .none :: _, _, _, h, _ => by cases h
  | .int _ :: _, _, _, h, _ => by cases h
  | .str _ :: _, _, _, h, _ => by cases h
  | .list _ :: _, _, _, h, _ => by cases h
  | .tuple _ :: _, _, _, h, _ => by cases h
  | .dict _ :: _, _, _, h, _ => by cases h
def cAll (f : Rho → Option (List PyData)) : Rho → Option W := fun r => match f r with
  | some ds => match bls ds with
    | some bs => some (.d (.bool (bs.all id)))
    | none => none
  | none => none
def cAny (f : Rho → Option (List PyData)) : Rho → Option W := fun r => match f r with
  | some ds => match bls ds with
    | some bs => some (.d (.bool (bs.any id)))
    | none => none
  | none => none
variable {p : Pos} {fl : Rho → Option (List PyData)}
theorem boot_all : bootBuiltins "all" = some (.builtin "all") := by decide +kernel
theorem boot_any : bootBuiltins "any" = some (.builtin "any") := by decide +kernel
theorem boot_sum : bootBuiltins "sum" = some (.builtin "sum") := by decide +kernel
theorem boot_list : bootBuiltins "list" = some (.type "list") := by decide +kernel
theorem boot_tuple : bootBuiltins "tuple" = some (.type "tuple") := by decide +kernel
theorem boot_int : bootBuiltins "int" = some (.type "int") := by decide +kernel
theorem ok_all (hb : ("all" : Str) ∈ c.T.bl) (hk : c.sc.names.lookup ("all" : Str) = some .globalImplicit) (ha : OkL c e fl) (hs : ∀ env, starEach [e] env = [(false, eval e env)] := by intro _; rfl) :
    OkE c (.Call (.Name "all" p) [e] [] pos) (cAll fl) := fun X gd r w h => by
  unfold cAll at h
  split at h
  · rename_i ds e1
    split at h
    · rename_i bs e2
      cases h
      refine pe_imp (pe_callB (cr_all gd.calm) ((gd.kind _).trans hk) (gd.tab.bl _ hb) boot_all (pa_cons (ha X gd r _ e1) pa_nil (hs X.env)) (he := hs X.env)) fun s H Q q => ⟨q.1, fun a vs H1 hp s1 h1 hd => ?_⟩
      exact ⟨a, bs, rfl, SqL.of (by rw [← bls_of e2 hd]; exact h1), q.2 _ H1 s1 (Dp.bl _)⟩
    · cases h
  · cases h
theorem ok_any (hb : ("any" : Str) ∈ c.T.bl) (hk : c.sc.names.lookup ("any" : Str) = some .globalImplicit) (ha : OkL c e fl) (hs : ∀ env, starEach [e] env = [(false, eval e env)] := by intro _; rfl) :
    OkE c (.Call (.Name "any" p) [e] [] pos) (cAny fl) := fun X gd r w h => by
  unfold cAny at h
  split at h
  · rename_i ds e1
    split at h
    · rename_i bs e2
      cases h
      refine pe_imp (pe_callB (cr_any gd.calm) ((gd.kind _).trans hk) (gd.tab.bl _ hb) boot_any (pa_cons (ha X gd r _ e1) pa_nil (hs X.env)) (he := hs X.env)) fun s H Q q => ⟨q.1, fun a vs H1 hp s1 h1 hd => ?_⟩
      exact ⟨a, bs, rfl, SqL.of (by rw [← bls_of e2 hd]; exact h1), q.2 _ H1 s1 (Dp.bl _)⟩
    · cases h
  · cases h
/-- list(xs), list(t) -/
def lOf (f : Rho → Option W) : Rho → Option (List PyData) := fun r => match f r with
  | some (.d (.list xs)) => some xs
  | some (.d (.tuple xs)) => some xs
  | _ => none
theorem ok_lof (hb : ("list" : Str) ∈ c.T.bl) (hk : c.sc.names.lookup ("list" : Str) = some .globalImplicit) (ha : OkE c e f) (hs : ∀ env, starEach [e] env = [(false, eval e env)] := by intro _; rfl) :
    OkL c (.Call (.Name "list" p) [e] [] pos) (lOf f) := fun X gd r w h => by
  unfold lOf at h
  split at h
  · rename_i xs e1
    cases h
    refine pe_imp (pe_callTy call_list_of ((gd.kind _).trans hk) (gd.tab.bl _ hb) boot_list (pa_cons (ha X gd r _ e1) pa_nil (hs X.env)) (he := hs X.env)) fun s H Q q => ⟨q.1, fun v H1 s1 hv => ?_⟩
    cases hv with
    | lst hs ha => exact ⟨_, _, rfl, .inl hs, fun l hl => q.2 l _ _ (s1.free hl) (s1.trans (same_new hl _)) upd_same (dpa_mono (same_new hl _) _ _ ha)⟩
  · rename_i xs e1
    cases h
    refine pe_imp (pe_callTy call_list_of ((gd.kind _).trans hk) (gd.tab.bl _ hb) boot_list (pa_cons (ha X gd r _ e1) pa_nil (hs X.env)) (he := hs X.env)) fun s H Q q => ⟨q.1, fun v H1 s1 hv => ?_⟩
    cases hv with
    | tup hs ha => exact ⟨_, _, rfl, .inr hs, fun l hl => q.2 l _ _ (s1.free hl) (s1.trans (same_new hl _)) upd_same (dpa_mono (same_new hl _) _ _ ha)⟩
  · cases h
/-- tuple([..]) -/
def cTupL (f : Rho → Option (List PyData)) : Rho → Option W := fun r => match f r with
  | some xs => some (.d (.tuple xs))
  | none => none
theorem ok_tupL (hb : ("tuple" : Str) ∈ c.T.bl) (hk : c.sc.names.lookup ("tuple" : Str) = some .globalImplicit) (ha : OkL c e fl) (hs : ∀ env, starEach [e] env = [(false, eval e env)] := by intro _; rfl) :
    OkE c (.Call (.Name "tuple" p) [e] [] pos) (cTupL fl) := fun X gd r w h => by
  unfold cTupL at h
  split at h
  · rename_i xs e1
    cases h
    refine pe_imp (pe_callTy call_tuple_of ((gd.kind _).trans hk) (gd.tab.bl _ hb) boot_tuple (pa_cons (ha X gd r _ e1) pa_nil (hs X.env)) (he := hs X.env)) fun s H Q q => ⟨q.1, fun a vs H1 hp s1 h1 hd => ?_⟩
    exact ⟨a, vs, rfl, .inl ⟨SqL.of h1, fun l hl => q.2 _ _ (s1.trans (same_new hl _)) (Dp.tup (SqT.of upd_same) (dpa_mono (same_new hl _) _ _ hd))⟩⟩
  · cases h
def its : List PyData → Option (List Int)
  | [] => some []
  | .int b :: ds => match its ds with
    | some bs => some (b :: bs)
    | none => none
  | _ => none
theorem its_of {K : PySem.W.Frag} {H : Hp} : ∀ {ds : List PyData} {bs : List Int} {vs : List V}, its ds = some bs → DpAll K H vs ds → vs = bs.map V.int
  | [], bs, _, h, k => by cases h; cases k; rfl
  | .int b :: ds, bs, _, h, k => by
    unfold its at h
    split at h
    · rename_i bs' e
      cases h
      cases k with
      | cons k1 k2 =>
        cases k1
        rw [its_of e k2]; rfl
    · cases h
  | .none :: _, _, _, h, _ => by cases h
  | .bool _ :: _, _, _, h, _ => by cases h
  | .str _ :: _, _, _, h, _ => by cases h
  | .list _ :: _, _, _, h, _ => by cases h
  | .tuple _ :: _, _, _, h, _ => by cases h
  | .dict _ :: _, _, _, h, _ => by cases h
def wSum : W → Option W
  | .d (.list ds) => match its ds with
    | some ns => some (.d (.int ns.sum))
    | none => none
  | _ => none
theorem ok_sum (hb : ("sum" : Str) ∈ c.T.bl) (hk : c.sc.names.lookup ("sum" : Str) = some .globalImplicit) (ha : OkE c e f) (hs : ∀ env, starEach [e] env = [(false, eval e env)] := by intro _; rfl) :
    OkE c (.Call (.Name "sum" p) [e] [] pos) (cOp1 wSum f) := fun X gd r w h => by
  obtain ⟨x, e1, e2⟩ := cOp1_some h
  unfold wSum at e2
  split at e2
  · rename_i ds
    split at e2
    · rename_i ns e3
      cases e2
      refine pe_imp (pe_callB (cr_sum gd.calm) ((gd.kind _).trans hk) (gd.tab.bl _ hb) boot_sum (pa_cons (ha X gd r _ e1) pa_nil (hs X.env)) (he := hs X.env)) fun s H Q q => ⟨q.1, fun v H1 s1 hv => ?_⟩
      cases hv with
      | lst hs ha => exact ⟨_, ns, rfl, by rw [← its_of e3 ha]; exact hs, q.2 _ H1 s1 (Dp.int _)⟩
    · cases e2
  · cases e2
def wAbs : W → Option W
  | .d (.int i) => some (.d (.int (if i < 0 then -i else i)))
  | _ => none
theorem ok_abs (hb : ("abs" : Str) ∈ c.T.bl) (hk : c.sc.names.lookup ("abs" : Str) = some .globalImplicit) (ha : OkE c e f) (hs : ∀ env, starEach [e] env = [(false, eval e env)] := by intro _; rfl) :
    OkE c (.Call (.Name "abs" p) [e] [] pos) (cOp1 wAbs f) := fun X gd r w h => by
  obtain ⟨x, e1, e2⟩ := cOp1_some h
  unfold wAbs at e2
  split at e2
  · rename_i i
    cases e2
    refine pe_imp (pe_callB call_abs ((gd.kind _).trans hk) (gd.tab.bl _ hb) boot_abs (pa_cons (ha X gd r _ e1) pa_nil (hs X.env)) (he := hs X.env)) fun s H Q q => ⟨q.1, fun v H1 s1 hv => ?_⟩
    exact ⟨i, by rw [int_of hv], q.2 _ H1 s1 (Dp.int _)⟩
  · cases e2
end
end Nm
namespace Nm
open PySem L2
/-! ### dicts with texts for keys -/
def tM (T : Tab) (X : Cx) (r : Rho) (kvs : List (Str × PyData)) : TE := fun s H Q => RV T X.K X.mg H s r ∧ ∀ p kws H', H p = none → Same H H' → H' p = some (.dK kws) → KvR X.K H' kws kvs → Q (.ref p) H'
def OkM (c : C0) (e : Expr) (f : Rho → Option (List (Str × PyData))) : Prop := ∀ X, Gd c X → ∀ r kvs, f r = some kvs → PE X e (tM c.T X r kvs)
def OkPP (c : C0) (pos : Pos) (keys : List (Option Expr)) (values : List Expr) (ks : List Str) (f : Rho → Option (List W)) : Prop := ∀ X, Gd c X → ∀ r ws, f r = some ws → ∃ trs, PPs X pos keys values trs ∧
  ∀ s H (Q : List (V × V) → Hp → Prop), RV c.T X.K X.mg H s r → (∀ vs H', Same H H' → RwAll c.T X.K X.mg H' vs ws → Q ((ks.zip vs).map fun p => (V.str p.1, p.2)) H') → tPairs trs s H Q
def mDict (ks : List Str) (f : Rho → Option (List W)) : Rho → Option (List (Str × PyData)) := fun r => match f r with
  | some ws => match wDs ws with
    | some xs => if xs.length = ks.length ∧ imms xs = true then some (ks.zip xs) else none
    | none => none
  | none => none
theorem putK_new {κ : Type} [DecidableEq κ] (kvs : List (κ × V)) (k : κ) (v : V) (h : k ∉ kvs.map (·.1)) : putK kvs k v = kvs ++ [(k, v)] := by
  unfold putK
  rw [if_neg]
  intro z
  obtain ⟨p, h1, h2⟩ := List.any_eq_true.mp z
  exact h (by rw [← of_decide_eq_true h2]; exact List.mem_map_of_mem h1)
theorem mergeK_nodup : ∀ (more acc : List (Key × V)), ((acc ++ more).map (·.1)).Nodup → mergeK acc more = acc ++ more
  | [], acc, _ => by rw [List.append_nil]; rfl
  | p :: more, acc, h => by
    have e : putK acc p.1 p.2 = acc ++ [p] := putK_new acc p.1 p.2 (fun z => by
      rw [List.map_append, List.nodup_append] at h
      exact h.2.2 _ z _ (by rw [List.map_cons]; exact List.mem_cons_self) rfl)
    show mergeK (putK acc p.1 p.2) more = _
    rw [e, mergeK_nodup more (acc ++ [p]) (by rw [List.append_assoc]; exact h), List.append_assoc]
    rfl
theorem zip_fst {α β : Type} : ∀ (xs : List α) (ys : List β), ys.length = xs.length → (xs.zip ys).map (·.1) = xs
  | [], _, _ => by simp
  | x :: xs, [], h => by cases h
  | x :: xs, y :: ys, h => by rw [List.zip_cons_cons, List.map_cons, zip_fst xs ys (by simpa using h)]
theorem zip_snd {α β : Type} : ∀ (xs : List α) (ys : List β), ys.length = xs.length → (xs.zip ys).map (·.2) = ys
  | [], [], _ => by simp
  | [], _ :: _, h => by cases h
  | x :: xs, [], h => by cases h
  | x :: xs, y :: ys, h => by rw [List.zip_cons_cons, List.map_cons, zip_snd xs ys (by simpa using h)]
theorem nodup_inr {ks : List Str} (h : ks.Nodup) : (ks.map fun x => (Sum.inr x : Key)).Nodup := by
  rw [List.nodup_iff_pairwise_ne, List.pairwise_map]
  exact (List.nodup_iff_pairwise_ne.mp h).imp fun hn e => hn (Sum.inr.inj e)
section
variable {c : C0} {pos : Pos} {e o : Expr} {f fa fb : Rho → Option W} {keys : List (Option Expr)} {values : List Expr} {ks : List Str} {fs : Rho → Option (List W)}
theorem okPP_nil : OkPP c pos [] [] [] aNil := fun X gd r ws h => by
  cases h
  exact ⟨_, pps_nil, fun s H Q h1 h2 => h2 [] H (Same.refl H) .nil⟩
theorem okPP_cons {x : Str} {j} {p : Pos} (he : OkE c e f) (hr : OkPP c pos keys values ks fs) : OkPP c pos (some (.Constant (.str x) j p) :: keys) (e :: values) (x :: ks) (aCons f fs) := fun X gd r ws h => by
  unfold aCons at h
  split at h
  · rename_i w e1
    split at h
    · rename_i ws' e2
      cases h
      obtain ⟨trs, h1, h2⟩ := hr X gd r ws' e2
      refine ⟨_, pps_cons pe_str (he X gd r w e1) h1, fun s H Q q1 q2 => ⟨q1, fun v H1 s1 hv => h2 s H1 _ (rv_mono s1 q1) fun vs H2 s2 hvs => q2 (v :: vs) H2 (s1.trans s2) (.cons (rw_mono s2 hv) hvs)⟩⟩
    · cases h
  · cases h
theorem ok_dict (h : OkPP c pos keys values ks fs) (hnd : ks.Nodup) (h15 : ks.length ≤ 15) (hall : keys.all (·.isSome) = true := by rfl) (hl : keys.length = values.length := by rfl) (h0 : keys ≠ [] := by intro z; cases z) (hk : keys.length ≤ 15 := by decide) :
    OkM c (.Dict keys values pos) (mDict ks fs) := fun X gd r kvs k => by
  unfold mDict at k
  split at k
  · rename_i ws e1
    split at k
    · rename_i xs e2
      split at k
      · rename_i hx
        obtain ⟨hx, him⟩ := hx
        cases k
        obtain ⟨trs, h1, h2⟩ := h X gd r ws e1
        refine pe_imp (pe_disp h1 hall hl h0 hk) fun s H Q q => ?_
        intro p hp
        refine h2 s _ _ (rv_mono (same_new hp _) q.1) fun vs H' s1 hv => ?_
        have hd := wDs_all e2 hv
        have hlen : vs.length = ks.length := by rw [dpa_len _ _ hd]; exact hx
        have hH : H' p = some (.dK []) := s1.at upd_same
        have sm : Same H (upd H' p (.dK (mergeK [] ((ks.zip vs).map fun z => (Sum.inr z.1, z.2))))) := same_mut ((same_new hp _).trans s1) hp hH trivial
        refine ⟨hH, (ks.zip vs).map fun z => (Sum.inr z.1, z.2), ?_, ?_, q.2 p _ _ hp sm upd_same ?_⟩
        · rw [List.map_map]; rfl
        · rw [List.length_map, List.length_zip]; omega
        · have em : mergeK [] ((ks.zip vs).map fun z => ((Sum.inr z.1 : Key), z.2)) = (ks.zip vs).map fun z => (Sum.inr z.1, z.2) := by
            rw [mergeK_nodup _ [] ?_, List.nil_append]
            rw [List.nil_append, List.map_map]
            show ((ks.zip vs).map ((fun x => (Sum.inr x : Key)) ∘ (·.1))).Nodup
            rw [← List.map_map, zip_fst _ _ hlen]
            exact nodup_inr hnd
          refine ⟨?_, ?_⟩
          · rw [em, List.map_map]
            show (ks.zip vs).map ((fun x => (Sum.inr x : Key)) ∘ (·.1)) = (ks.zip xs).map ((fun x => (Sum.inr x : Key)) ∘ (·.1))
            rw [← List.map_map, ← List.map_map, zip_fst _ _ hlen, zip_fst _ _ hx]
          · rw [em, List.map_map]
            show DpAll _ _ ((ks.zip vs).map (·.2)) ((ks.zip xs).map (·.2))
            rw [zip_snd _ _ hlen, zip_snd _ _ hx]
            have ts : TSame H' (upd H' p (.dK ((ks.zip vs).map fun z => ((Sum.inr z.1 : Key), z.2)))) := fun b ys qb => by
              have hne : b ≠ p := fun z => by
                rcases qb with qb | ⟨_, qb⟩
                · rw [z, hH] at qb; cases qb
                · rw [z, hH] at qb; cases qb
              rcases qb with qb | ⟨o', qb⟩
              · exact .inl (by rw [upd_ne hne]; exact qb)
              · exact .inr ⟨o', by rw [upd_ne hne]; exact qb⟩
            exact dpa_tmono ts _ _ him hd
      · cases k
    · cases k
  · cases k
/-- a new dict, stored -/
def zD (f : Rho → Option (List (Str × PyData))) : Rho → Option Sl := fun r => match f r with
  | some kvs => some (.od kvs)
  | none => none
theorem okX_d {f : Rho → Option (List (Str × PyData))} (h : OkM c e f) : OkX c e (zD f) := fun X gd r x k => by
  unfold zD at k
  split at k
  · rename_i xs e1
    cases k
    exact ⟨_, h X gd r xs e1, fun s H Q q1 q2 => ⟨q1, fun p vs H' hp s1 h' hd => q2 _ H' s1 fun gh He s' r' h1 h2 i => h1.setoG (x := .od xs) hp s1 h' hd h2 i⟩⟩
  · cases k
/-- x = e, by what is stored -/
def sSt1 (i : Nat) (g : Rho → Option Sl) : CS := fun r => match g r with
  | some v => if slOk v r then some (.nx (r.set i (some v))) else none
  | none => none
theorem okS_st1 {x : Str} {px : Pos} {g : Rho → Option Sl} (i : Nat) (hN : c.N[i]? = some x) (hl : Loc c.sc x) (he : OkX c e g) (hs : ∀ env l, swapsWith e (some (.Name x px)) l env = pure false := by intro _ _; rfl) (hf : c.fa = true ∨ c.sc.names.lookup x = some .local := by first | exact .inl rfl | exact .inr rfl) : OkS c (.Assign [.Name x px] e pos) (sSt1 i g) := fun X gd hx r o k => by
  unfold sSt1 at k
  split at k
  · rename_i v e1
    split at k
    · rename_i hc
      cases k
      obtain ⟨t, h1, h2⟩ := he X gd r v e1
      exact ps_imp (ps_set (i := i) (by rw [gd.hN]; exact gd.nd) (by rw [gd.hN]; exact hN) (by rw [gd.hsc]; exact hl) h1 (hs X.env pos.line) (gd.st hf)) fun D s H ⟨gh, He, q1, q2⟩ => h2 s H _ q1.rv fun v1 H1 s1 k1 => q2 _ _ (k1 gh He s r q1 hc i)
    · cases k
  · cases k
/-- d[k] -/
def wDget : W → W → Option W
  | .m kvs, .d (.str x) => match kvs.lookup x with
    | some d => some (.d d)
    | none => none
  | _, _ => none
theorem valV_kv {K : PySem.W.Frag} {H : Hp} {x : Str} {d : PyData} : ∀ {kws : List (Key × V)} {kvs : List (Str × PyData)}, KvR K H kws kvs → kvs.lookup x = some d → ∃ v, valV kws (.inr x : Key) = some v ∧ Dp K H v d
  | [], [], _, e => by cases e
  | [], _ :: _, h, _ => by cases h.1
  | _ :: _, [], h, _ => by cases h.1
  | (k, v) :: kws, (y, d') :: kvs, h, e => by
    obtain ⟨h1, h2⟩ := h
    simp only [List.map_cons, List.cons.injEq] at h1
    simp only [List.map_cons] at h2
    cases h2 with
    | cons h2 h3 =>
      by_cases q : x = y
      · subst q
        rw [List.lookup_cons] at e
        simp only [BEq.rfl] at e
        cases e
        exact ⟨v, by rw [valV_pos (by rw [h1.1])], h2⟩
      · have ne : (x == y) = false := by simpa using q
        rw [List.lookup_cons, ne] at e
        obtain ⟨u, g1, g2⟩ := valV_kv ⟨h1.2, h3⟩ e
        refine ⟨u, ?_, g2⟩
        rw [← g1]
        unfold valV
        rw [List.find?_cons_of_neg]
        rw [h1.1]
        simp only [decide_eq_true_eq]
        exact fun z => q (Sum.inr.inj z).symm
theorem ok_dget {i : Expr} (ho : OkE c o fa) (hi : OkE c i fb) (hs : NoSl i := by intro _ _; rfl) : OkE c (.Subscript o i pos) (cOp2 wDget fa fb) := fun X gd r w h => by
  obtain ⟨x, y, e1, e2, e3⟩ := cOp2_some h
  unfold wDget at e3
  split at e3
  · rename_i kvs z
    split at e3
    · rename_i d e4
      cases e3
      refine pe_imp (pe_dget (by have := room200 gd.room; omega) (ho X gd r _ e1) (hi X gd r _ e2) hs) fun s H Q q => ⟨q.1, fun v H1 s1 hv => ⟨rv_mono s1 q.1, fun u H2 s2 hu => ?_⟩⟩
      have hv := rw_mono s2 hv
      obtain ⟨a, kws, rfl, h1, h2⟩ := hv
      obtain rfl := str_of hu
      obtain ⟨v, g1, g2⟩ := valV_kv h2 e4
      refine ⟨a, v, rfl, ?_, q.2 v H2 (s1.trans s2) g2⟩
      have := DGet.k (k := (.inr z : Key)) h1
      rw [g1] at this
      exact this
    · cases e3
  · cases e3
/-- d[k] = v -/
def putS (kvs : List (Str × PyData)) (x : Str) (d : PyData) : List (Str × PyData) := if (kvs.any fun kv => decide (kv.1 = x)) = true then kvs.map (fun kv => if kv.1 = x then (kv.1, d) else kv) else kvs ++ [(x, d)]
theorem any_kv {K : PySem.W.Frag} {H : Hp} {x : Str} : ∀ {kws : List (Key × V)} {kvs : List (Str × PyData)}, KvR K H kws kvs → (kws.any fun kv => decide (kv.1 = (Sum.inr x : Key))) = kvs.any fun kv => decide (kv.1 = x)
  | [], [], _ => rfl
  | [], _ :: _, h => by cases h.1
  | _ :: _, [], h => by cases h.1
  | (k, v) :: kws, (y, d') :: kvs, h => by
    obtain ⟨h1, h2⟩ := h
    simp only [List.map_cons, List.cons.injEq] at h1
    simp only [List.map_cons] at h2
    cases h2 with
    | cons h2 h3 =>
      rw [List.any_cons, List.any_cons, any_kv ⟨h1.2, h3⟩, h1.1]
      congr 1
      exact decide_eq_decide.mpr ⟨fun z => Sum.inr.inj z, fun z => congrArg Sum.inr z⟩
theorem map_kv {K : PySem.W.Frag} {H : Hp} {x : Str} {v : V} {d : PyData} (hd : Dp K H v d) : ∀ {kws : List (Key × V)} {kvs : List (Str × PyData)}, KvR K H kws kvs → KvR K H (kws.map fun kv => if kv.1 = (Sum.inr x : Key) then (kv.1, v) else kv) (kvs.map fun kv => if kv.1 = x then (kv.1, d) else kv)
  | [], [], _ => ⟨rfl, .nil⟩
  | [], _ :: _, h => by cases h.1
  | _ :: _, [], h => by cases h.1
  | (k, u) :: kws, (y, d') :: kvs, h => by
    obtain ⟨h1, h2⟩ := h
    simp only [List.map_cons, List.cons.injEq] at h1
    simp only [List.map_cons] at h2
    cases h2 with
    | cons h2 h3 =>
      obtain ⟨g1, g2⟩ := map_kv (x := x) hd ⟨h1.2, h3⟩
      obtain ⟨rfl, h1⟩ := h1
      by_cases q : y = x
      · subst q
        simp only [List.map_cons, if_true]
        exact ⟨by rw [List.map_cons, List.map_cons, g1], .cons hd g2⟩
      · have q' : ¬ (Sum.inr y : Key) = Sum.inr x := fun z => q (Sum.inr.inj z)
        simp only [List.map_cons, if_neg q, if_neg q']
        exact ⟨by rw [List.map_cons, List.map_cons, g1], .cons h2 g2⟩
theorem put_kv {K : PySem.W.Frag} {H : Hp} {x : Str} {v : V} {d : PyData} (hd : Dp K H v d) {kws : List (Key × V)} {kvs : List (Str × PyData)} (h : KvR K H kws kvs) : KvR K H (putK kws (Sum.inr x : Key) v) (putS kvs x d) := by
  unfold putK putS
  rw [any_kv h]
  split
  · exact map_kv hd h
  · exact ⟨by rw [List.map_append, List.map_append, h.1]; rfl, by rw [List.map_append, List.map_append]; exact dpa_app _ _ _ _ h.2 (.cons hd .nil)⟩
theorem kv_len {K : PySem.W.Frag} {H : Hp} {kws : List (Key × V)} {kvs : List (Str × PyData)} (h : KvR K H kws kvs) : kws.length = kvs.length := by
  have := congrArg List.length h.1
  simpa using this
def sDput (i : Nat) (fk fv : Rho → Option W) : CS := fun r => match r[i]? with
  | some (some (.od kvs)) => match fv r with
    | some (.d d) => match fk r with
      | some (.d (.str x)) => if imm d && decide (kvs.length < 100000) then some (.nx (r.set i (some (.od (putS kvs x d))))) else none
      | _ => none
    | _ => none
  | _ => none
theorem okS_dput {x : Str} {px pos' : Pos} {ix : Expr} {fk fv : Rho → Option W} (i : Nat) (hN : c.N[i]? = some x) (hv : Vis c.sc x) (hk : OkE c ix fk) (he : OkE c e fv) (hs : ∀ env l, swapsWith e (some (.Subscript (.Name x px) ix pos')) l env = pure false := by intro _ _; rfl)
    (hd : (x == ("__debug__" : Str)) = false := by decide) (hcd : (x == ("__classdict__" : Str)) = false := by decide) : OkS c (.Assign [.Subscript (.Name x px) ix pos'] e pos) (sDput i fk fv) := fun X gd hx r o k => by
  unfold sDput at k
  split at k
  · rename_i kvs e1
    split at k
    · rename_i d e2
      split at k
      · rename_i z e3
        split at k
        · rename_i hc
          have hc' : imm d = true ∧ kvs.length < 100000 := by simpa using hc
          cases k
          refine ps_imp (ps_dput (by have := room200 gd.room; omega) (pe_var (i := i) (by rw [gd.hN]; exact hN) (by rw [gd.hsc]; exact hv) hd hcd) (hk X gd r _ e3) (he X gd r _ e2) (hs X.env pos.line)) fun D s H ⟨gh, He, ⟨O, q1⟩, q2⟩ => ⟨q1.rv, fun v H1 s1 hv => ?_⟩
          have q3 := q1.step s1
          obtain ⟨a, kws, h1, h2, h3, h4⟩ := q3.dv i kvs e1
          refine ⟨_, h1, q3.rv, fun u H2 s2 hu => ?_⟩
          obtain rfl := str_of hu
          have q4 := q3.step s2
          obtain ⟨a', kws', h1', h2', h3', h4'⟩ := q4.dv i kvs e1
          rw [h1] at h1'
          cases h1'
          refine ⟨a, _, rfl, .inl ⟨kws', Sum.inr z, h3', rfl, by rw [kv_len h4']; exact Nat.lt_of_lt_of_le hc'.2 (by decide), rfl⟩, q2 _ _ ⟨O, ?_⟩⟩
          exact q4.mutG (y := .od (putS kvs z d)) e1 rfl h1 h2 (put_kv (dp_tmono (mask_tsame fun a z => (q4.ow a z).2) d v hc'.1 (dp_mono s2 _ _ hv)) h4')
        · cases k
      · cases k
    · cases k
  · cases k
end
theorem okSs_never {c : C0} {sts : List Stmt} : OkSs c sts sNever := fun X gd hx r o q => by cases q
def lIf (q : Rho → Option Bool) (f g : Rho → Option (List PyData)) : Rho → Option (List PyData) := fun r => match q r with
  | some true => f r
  | some false => g r
  | none => none
theorem ok_ifL {c : C0} {pos : Pos} {t a b : Expr} {q : Rho → Option Bool} {fa fb : Rho → Option (List PyData)} (ht : OkT c t q) (ha : OkL c a fa) (hb : OkL c b fb) : OkL c (.IfExp t a b pos) (lIf q fa fb) := fun X gd r k h => by
  unfold lIf at h
  split at h
  · rename_i e
    exact pe_imp (pe_ifExp (ht X gd r true e) (ha X gd r k h) pe_never) fun s H Q h => ⟨h.1, fun H1 e1 => iteT ⟨rv_mono e1 h.1, fun p vs H2 hp e2 h2 hd => h.2 p vs H2 (e1.free hp) (e1.trans e2) h2 hd⟩⟩
  · rename_i e
    exact pe_imp (pe_ifExp (ht X gd r false e) pe_never (hb X gd r k h)) fun s H Q h => ⟨h.1, fun H1 e1 => iteF ⟨rv_mono e1 h.1, fun p vs H2 hp e2 h2 hd => h.2 p vs H2 (e1.free hp) (e1.trans e2) h2 hd⟩⟩
  · cases h
/-! ### o.m(e, ..), the class not told -/
def cMethD (F : Fs) (ms : List (Nat × Nat)) (f : Rho → Option W) (g : Rho → Option (List W)) : Rho → Option W := fun r => match f r with
  | some (.o k _) => match ms.lookup k with
    | some i => cMeth F i k f g r
    | none => none
  | _ => none
theorem lookup_mem {k i : Nat} : ∀ {ms : List (Nat × Nat)}, ms.lookup k = some i → (k, i) ∈ ms
  | [], h => by cases h
  | (a, b) :: ms, h => by
    rw [List.lookup_cons] at h
    split at h
    · rename_i e
      cases h
      rw [show k = a by simpa using e]
      exact List.mem_cons_self
    · exact List.mem_cons_of_mem _ (lookup_mem h)
section
variable {c : C0} {pos apos : Pos} {o e : Expr} {es : List Expr} {f : Rho → Option W} {fs : Rho → Option (List W)}
theorem ok_methD {pl : Env → Sem Bool} (ms : List (Nat × Nat)) (m : Str) (hm : ∀ p ∈ ms, c.T.mo p.2 = some (p.1, m) ∧ p.1 < c.T.nc ∧ m ∉ c.T.cf p.1) (ho : OkE c o f) (ha : OkA c (e :: es) fs)
    (he : ∀ env, starEach (e :: es) env = (false, eval e env) :: starEach es env := by intro _; rfl) (hpl : ∀ env, (backTo pos (starEach es env)).any (·.1) = false := by intro _; rfl)
    (ht : ∀ env, eval (.Call (.Attribute o m apos) (e :: es) [] pos) env = (do
      let ov ← eval o env
      standAt apos.atName
      let (f, first) ← holding [ov] (getMethod ov m (pl env))
      callWith pos f first (backTo pos (starEach (e :: es) env)) (backToKw pos (keywordEach [] env))) := by intro _; rfl) (hlm : ms.all (fun p => (c.T.lm p.2).isNone) = true := by rfl) :
    OkE c (.Call (.Attribute o m apos) (e :: es) [] pos) (cMethD c.F ms f fs) := fun X gd r w k => by
  unfold cMethD at k
  split at k
  · rename_i kk ds e1
    split at k
    · rename_i i e2
      obtain ⟨h1, h2, h3⟩ := hm _ (lookup_mem e2)
      exact ok_meth i kk m h1 h2 h3 ho ha he hpl ht (Option.isNone_iff_eq_none.mp (List.all_eq_true.mp hlm _ (lookup_mem e2))) X gd r w k
    · cases k
  · cases k
end
/-! ### isinstance(x, (A, B)) -/
section
variable {c : C0} {pos p : Pos} {e : Expr} {f : Rho → Option W}
theorem ok_isi2 {nm nm2 : String} {y y2 : Str} {g g2 : PyData → Bool} {p2 p3 p4 : Pos} {k4} (ty : IsTy nm y g) (ty2 : IsTy nm2 y2 g2) (hb : ("isinstance" : Str) ∈ c.T.bl) (hk : c.sc.names.lookup ("isinstance" : Str) = some .globalImplicit) (hb2 : y ∈ c.T.bl) (hk2 : c.sc.names.lookup y = some .globalImplicit) (hb3 : y2 ∈ c.T.bl) (hk3 : c.sc.names.lookup y2 = some .globalImplicit)
    (ha : OkE c e f) (hs : ∀ env, starEach [e, .Tuple [.Name y p2, .Name y2 p3] k4 p4] env = (false, eval e env) :: [(false, eval (.Tuple [.Name y p2, .Name y2 p3] k4 p4) env)] := by intro _; rfl) :
    OkE c (.Call (.Name "isinstance" p) [e, .Tuple [.Name y p2, .Name y2 p3] k4 p4] [] pos) (cOp1 (wIsi fun d => g d || g2 d) f) := fun X gd r w h => by
  obtain ⟨x, e1, e2⟩ := cOp1_some h
  have hn : PE X (.Name y p2) (tC (.ty nm)) := pe_bltn ((gd.kind _).trans hk2) (gd.tab.bl _ hb2) ty.boot rfl ty.ne ty.nd
  have hn2 : PE X (.Name y2 p3) (tC (.ty nm2)) := pe_bltn ((gd.kind _).trans hk3) (gd.tab.bl _ hb3) ty2.boot rfl ty2.ne ty2.nd
  refine pe_imp (pe_callB call_isiT ((gd.kind _).trans hk) (gd.tab.bl _ hb) boot_isi (pa_cons (ha X gd r x e1) (pa_cons (pe_tup (pa_cons hn (pa_cons hn2 pa_nil))) pa_nil) (hs X.env)) (he := hs X.env)) fun s H Q q => ⟨q.1, fun v H1 s1 hv => ?_⟩
  unfold wIsi at e2
  split at e2
  · rename_i d
    cases e2
    have hv : Dp X.K H1 v d := hv
    refine ⟨sz (by simp), fun tp htp => ?_⟩
    have sm := same_new htp (.tup [V.ty nm, V.ty nm2])
    have hv2 := dp_mono sm d v hv
    refine ⟨v, tp, [.ty nm, .ty nm2], .type (tyN d), [.type nm, .type nm2], _, rfl, upd_same, .cons (.ty nm) (.cons (.ty nm2) .nil), tyX_of hv2, ?_, q.2 _ _ (s1.trans sm) (Dp.bl _)⟩
    have h1 := kit_ty (K := X.K) (ty.kit d)
    have h2 := kit_ty (K := X.K) (ty2.kit d)
    simp only [PySem.W.kitAny, h1, h2]
    cases g d <;> cases g2 d <;> rfl
  · cases e2
end
end Nm
namespace Nm
open PySem L2
/-! ### xs.extend(t), t a tuple -/
theorem ext_tup (l : Addr) (items : Array Value) (n : Nat) (b : Addr) (dd : Option Addr) (sl : Array (Option Value)) (items2 : Array Value) (n2 : Nat) (hs0 : ¬(!items.isEmpty && Builtin.List.listTooLong (items.size + items2.size)) = true) (hs1 : items.size ≤ sizeLine) (hs2 : items.size + items2.size ≤ sizeLine + 1) :
    Meets (Builtin.«list.extend» ⟨[.ref l, .ref b], []⟩) (fun _ R s => s.heap.get? l = some { cls := .type "list", dict := none, data := .seq items n, slots := #[] } ∧ s.heap.get? b = some { cls := .type "tuple", dict := dd, data := .seq items2 n2, slots := sl } ∧ R (.ok (.ret Value.none)) { s with heap := s.heap.update l (Obj.mapSeq fun x => x ++ items2), toks := s.toks }) :=
  .of_wp fun prog w A R s h => by
    obtain ⟨hp, g, d, tk, os⟩ := s
    obtain ⟨hl, hb, h⟩ := h
    have f1 := PySem.AutoSeq1.idx_int
    have f2 := PySem.AutoSeq1.sub_tuple_tuple
    have f3 := PySem.AutoSeq1.sub_list_list
    have f4 := PySem.AutoSeq1.sub_tuple_list
    have f5 := PySem.AutoSeq1.sub_list_tuple
    have hz' : (items ++ items2).size ≤ sizeLine + 1 := by rw [Array.size_append]; exact hs2
    wp_walk using (wpAny_updateSeq hl rfl (hz := hs1) (_hz' := hz')), PySem.AutoSeq1.wpAny_loadPart' hl, PySem.AutoSeq1.wpAny_loadPart' hb
    exact ⟨_, rfl, h⟩
def rExtT (K : PySem.W.Frag) : V → List V → Hp → VK → Prop := fun x vs H Q => ∃ l b xs zs, x = .ref l ∧ vs = [.ref b] ∧ H l = some (.lst xs) ∧ SqT K H b zs ∧ xs.length + zs.length ≤ sizeLine ∧ Q .non (upd H l (.lst (xs ++ zs)))
theorem mt_extT {X : Cx} : MtM X "list.extend" (rExtT X.K) := by
  intro pins s σ H x vs v us Q I rx rv h
  obtain ⟨l, b, xs, zs, rfl, rfl, hH, hB, hz, q⟩ := h
  cases rx
  obtain ⟨u, rfl, ru⟩ := rv.one
  cases ru
  obtain ⟨z, its, n, r, hl, e⟩ := I.lstM hH
  obtain ⟨its2, r2, ⟨o, e2, hc, n2, hd⟩, hl2⟩ := I.tuple hB
  obtain ⟨oc, od, odt, osl⟩ := o
  simp only at hc hd
  subst hc hd
  have hlen2 := r2.length
  have hsz : its.toArray.size + its2.toArray.size ≤ sizeLine := by rw [List.size_toArray, List.size_toArray]; omega
  have hlong : ¬ (!its.toArray.isEmpty && Builtin.List.listTooLong (its.toArray.size + its2.toArray.size)) = true := by
    rw [notLongL hsz, Bool.and_false]
    exact Bool.false_ne_true
  refine call_meets F.slot_list_extend ⟨_, e, rfl⟩ F.entry_list_extend (F.args_list_extend_2 _ _) (ext_tup l its.toArray n b od osl its2.toArray n2 hlong (by rw [List.size_toArray]; omega) (by omega)) ⟨e, e2, ?_⟩
  refine ⟨.non, _, I.lset (its' := its ++ its2) hH e (by simp) (r.append r2) ?_, rfl, q⟩
  rw [List.length_append]
  omega
section
variable {c : C0} {pos px apos cpos : Pos} {e : Expr} {f : Rho → Option W} {x : Str}
def sExtT (i : Nat) (f : Rho → Option W) : CS := fun r => match r[i]? with
  | some (some (.own xs)) => match f r with
    | some (.d (.tuple ys)) => if imms ys && decide (xs.length + ys.length ≤ 100000) then some (.nx (r.set i (some (.own (xs ++ ys))))) else none
    | _ => none
  | _ => none
theorem okS_extT (i : Nat) (hN : c.N[i]? = some x) (hv : Vis c.sc x) (he : OkE c e f) (hs : ∀ env, starEach [e] env = [(false, eval e env)] := by intro _; rfl)
    (hfew : ∀ env, ((backTo cpos (starEach [e] env)).all (fun x => !x.1) && (backToKw cpos (keywordEach [] env)).all (fun x => x.1.isSome) && decide ([e].length + ([] : List Keyword).length + (if ([] : List Keyword).isEmpty then 0 else 1) < 30)) = true := by intro _; rfl)
    (hline : (apos.endLine == cpos.line) = true := by rfl) (hd : (x == ("__debug__" : Str)) = false := by decide) (hcd : (x == ("__classdict__" : Str)) = false := by decide) :
    OkS c (.Expr (.Call (.Attribute (.Name x px) "extend" apos) [e] [] cpos) pos) (sExtT i f) := fun X gd hx r o k => by
  unfold sExtT at k
  split at k
  · rename_i xs e1
    split at k
    · rename_i ys e2
      split at k
      · rename_i hc
        have hc' : imms ys = true ∧ xs.length + ys.length ≤ 100000 := by simpa using hc
        cases k
        refine ps_imp (ps_expr (pe_bm PySem.F.plainAttrs_list PySem.F.slot_list_extend PySem.F.type_list_extend mt_extT (pe_var (i := i) (by rw [gd.hN]; exact hN) (by rw [gd.hsc]; exact hv) hd hcd) (pa_cons (he X gd r _ e2) pa_nil (hs X.env)) rfl (hfew X.env) hline (hs X.env) rfl) rfl) fun D s H ⟨gh, He, ⟨O, q1⟩, q2⟩ => ?_
        obtain ⟨a, vs, h1, h2, h3, h4⟩ := q1.ov i xs e1
        refine ⟨_, h1, .inl ⟨rfl, _, SqL.of h3⟩, q1.rv, fun v H1 s1 hv => ?_⟩
        have q3 := q1.step s1
        obtain ⟨a', vs', h1', h2', h3', h4'⟩ := q3.ov i xs e1
        rw [h1] at h1'
        cases h1'
        cases hv with
        | tup hs ha =>
          refine ⟨a, _, vs', _, rfl, rfl, h3', hs, by rw [dpa_len _ _ h4', dpa_len _ _ ha]; exact sz hc'.2, ?_⟩
          exact q2 _ _ ⟨O, q3.mut e1 h1 h2 (dpa_app _ _ _ _ h4' (dpa_tmono (mask_tsame fun a z => (q3.ow a z).2) ys _ hc'.1 ha))⟩
      · cases k
    · cases k
  · cases k
end
end Nm
namespace Nm
open PySem L2
/-! ### C() of a class without __init__ -/
theorem run_make0 {X : Cx} {C : Addr} {pins : List (Addr × Obj)} {σ : L2.St} {H : Hp} {s : Shared} {Q : VK} (M : Mk0 X.K C) (I : Inv X pins σ H s)
    (h : ∀ x dx, H x = none → H dx = none → dx ≠ x → Q (.ref x) (upd (upd H dx (.own x)) x (.ins C dx []))) :
    wpAny (model X.prog X.w) X.A (call (.ref C) []) (EP X pins σ Q) X.xe s := by
  have hq := h (s.heap.objs.size + 1) s.heap.objs.size (I.hok.fresh (Nat.le_succ _)) (I.hok.fresh (Nat.le_refl _)) (Nat.ne_of_lt (Nat.lt_succ_self _))
  have I2 := Inv.made (C := C) I
  refine wpAny_call ?_
  have Y := PySem.W.makes_of (M := model X.prog X.w) I.kIn M.makes
  refine make_map0 I.kIn M.makes M.init (fun self => PySem.W.Looks.of_pure (PySem.W.oi_bind self)) ?_
  have g1 : ((s.heap.push PySem.W.emptyDict).push (PySem.W.instObj C s.heap.objs.size)).get? (s.heap.objs.size + 1) = some (PySem.W.instObj C s.heap.objs.size) := by
    have := Heap.get?_push_size (h := s.heap.push PySem.W.emptyDict) (o := PySem.W.instObj C s.heap.objs.size) rfl
    rwa [Heap.size_push] at this
  have t1 : PySem.W.Looks (model X.prog X.w) ((s.heap.push PySem.W.emptyDict).push (PySem.W.instObj C s.heap.objs.size)) (typeOf (.ref (s.heap.objs.size + 1))) (.ref C) := (PySem.W.Looks.ld g1).andThen .now
  have t2 : PySem.W.Looks (model X.prog X.w) ((s.heap.push PySem.W.emptyDict).push (PySem.W.instObj C s.heap.objs.size)) (isInstance (.ref (s.heap.objs.size + 1)) (.type "object")) true := t1.andThen (Y.top.keeps fun b o e => Heap.get?_push_of_some _ (Heap.get?_push_of_some _ e))
  refine codeAny_call_builtin PySem.W.oi_plain PySem.W.entry_oi (@PySem.W.check_slot (model X.prog X.w) _ _ _ "object.__init__" "object" "__init__" (.ref (s.heap.objs.size + 1)) [] [] _ PySem.W.oi_kind PySem.W.oi_split t2 (PySem.W.oi_args (.ref (s.heap.objs.size + 1))) ?_)
  rw [PySem.W.oi_run]
  exact wpAny_pure (And.intro rfl ⟨V.ref (s.heap.objs.size + 1), _, I2, rfl, hq⟩)
def cMake0 (k n : Nat) : Rho → Option W := fun _ => some (.o n [])
theorem ok_make0 {c : C0} {x : Str} {p pos : Pos} (n : Nat) (hx : c.T.cn n = x) (hk : c.sc.names.lookup x = some .globalImplicit) (hn : n < c.T.nc) (hf : c.T.cf n = []) (h0 : c.T.mk0 n = true) (hd : (x == ("__debug__" : Str)) = false := by decide) :
    OkE c (.Call (.Name x p) [] [] pos) (cMake0 c.k n) := fun X gd r w k => by
  cases k
  obtain ⟨C, h1, h2, h3, h4, _, h5, _⟩ := (gd.clo.cl n hn).ex
  have M := h5 h0
  rw [hx] at h1
  refine ⟨fun pins s σ H Q I q => ?_⟩
  refine wpAny_Call_Name_kw (ld_glob I ((gd.kind x).trans hk) h1 ?_ hd)
  refine PySem.W.callWith_K0 I.kIn M.kp (run_make0 M I fun z dx hz hdx hne => ?_)
  have sm : Same H (upd (upd H dx (.own z)) z (.ins C dx [])) := (same_new hdx _).trans (same_new (by rw [upd_ne (Ne.symm hne)]; exact hz) _)
  refine q.2 _ _ sm ⟨z, C, dx, [], rfl, by rw [hx]; exact h1, ?_, by rw [hf]; rfl, .nil⟩
  rw [hf]
  exact upd_same
/-! ### a text so many times over -/
def repS (x : Str) (n : Nat) : Str := ⟨(List.replicate n x.cps).foldl (· ++ ·) #[]⟩
theorem fold_len (a : Array Nat) : ∀ (n : Nat) (b : Array Nat), ((List.replicate n a).foldl (· ++ ·) b).size = b.size + n * a.size
  | 0, b => by simp
  | n + 1, b => by
    rw [List.replicate_succ, List.foldl_cons, fold_len a n, Array.size_append, Nat.succ_mul]
    omega
theorem fold_list (a : Array Nat) : ∀ (n : Nat) (b : Array Nat), ((List.replicate n a).foldl (· ++ ·) b).toList = b.toList ++ (List.replicate n a.toList).flatten
  | 0, b => by simp
  | n + 1, b => by
    rw [List.replicate_succ, List.foldl_cons, fold_list a n, List.replicate_succ, List.flatten_cons, Array.toList_append, List.append_assoc]
def wMulS : W → W → Option W
  | .d (.str x), .d (.int n) => if 2 ≤ n ∧ n ≤ 1000 ∧ x.length = 1 then some (.d (.str (repS x n.toNat))) else none
  | _, _ => none
def rMulS : R2 := fun x y H Q => ∃ i n, x = .str i ∧ y = .int n ∧ 2 ≤ n ∧ n ≤ 1000 ∧ i.length = 1 ∧ Q (.str (repS i n.toNat)) H
theorem op_mulS {X : Cx} : OpR X (binaryOp .Mult) rMulS := by
  intro pins s σ H x y v u Q I rx ry h
  obtain ⟨i, n, rfl, rfl, h2, h3, h4, q⟩ := h
  obtain ⟨t, rfl⟩ := rx
  obtain ⟨t', rfl⟩ := ry
  refine PySem.P.mul_str ?_ (fun _ _ => ?_) (fun _ _ => ?_) ?_
  · rw [decide_eq_false (by omega), decide_eq_false (by omega)]; rfl
  · rw [h4]
    have h5 : (2 ^ 63 - 1 : Int) / n ≥ (2 ^ 63 - 1) / 1000 := by
      refine (Int.le_ediv_iff_mul_le (by omega)).mpr ?_
      have : (2 ^ 63 - 1 : Int) / 1000 * n ≤ (2 ^ 63 - 1) / 1000 * 1000 := Int.mul_le_mul_of_nonneg_left h3 (by decide)
      exact Int.le_trans this (by decide)
    have h6 : ((2 ^ 63 - 1 : Int) / 1000) ≥ 2 := by decide
    omega
  · rw [h4, Nat.one_mul]
    exact decide_eq_false (by
      show ¬ _
      have : n.toNat ≤ 1000 := by omega
      simp only [sizeLine]
      omega)
  · rw [if_neg (by omega), if_neg (by
      rw [h4]
      simp only [Bool.or_eq_true, beq_iff_eq, Nat.one_ne_zero, or_false]
      omega)]
    refine ⟨?_, .str (repS i n.toNat), H, I.tok _, ⟨_, rfl⟩, q⟩
    show ((List.replicate n.toNat i.cps).foldl (· ++ ·) #[]).size ≤ sizeLine
    rw [fold_len]
    have h5 : i.cps.size = 1 := h4
    rw [h5]
    exact sz (by simp only [List.size_toArray, List.length_nil]; omega)
theorem ok_mulS {c : C0} {pos : Pos} {a b : Expr} {fa fb : Rho → Option W} (ha : OkE c a fa) (hb : OkE c b fb) : OkE c (.BinOp a .Mult b pos) (cOp2 wMulS fa fb) :=
  ok_op (rr := fun _ => _) (fun X g => op_mulS) (fun X gd H x y v u w Q h hx hy k => by
    unfold wMulS at h
    split at h
    · rename_i i n
      split at h
      · rename_i hz
        cases h
        exact ⟨i, n, str_of hx, int_of hy, hz.1, hz.2.1, hz.2.2, k _ H (Same.refl H) (Dp.str _)⟩
      · cases h
    · cases h) ha hb
/-! ### a, b = x, y, one of a, b told in a cell: stored from the left -/
theorem ps_parC {X : Cx} {i j : Nat} {x y : Str} {a b : Expr} {ta : TA} {px py pt pos : Pos} {kt k2 pt2} (hc : X.calm = true) (hN : X.N.Nodup) (hi : X.N[i]? = some x) (hj : X.N[j]? = some y)
    (hx : Loc X.env.scope x) (hy : Loc X.env.scope y) (fx : X.fn x = true ∨ X.env.scope.names.lookup x = some .local) (fy : X.fn y = true ∨ X.env.scope.names.lookup y = some .local) (ha : PA X [a, b] ta)
    (hw : swappedStores [.Tuple [.Name x px, .Name y py] kt pt] (.Tuple [a, b] k2 pt2) X.env = pure none)
    (hs : swapsWithSole [.Tuple [.Name x px, .Name y py] kt pt] (.Tuple [a, b] k2 pt2) pos.line X.env = pure false := by rfl) :
    PS X (.Assign [.Tuple [.Name x px, .Name y py] kt pt] (.Tuple [a, b] k2 pt2) pos) (tPar i j ta) := by
  refine ⟨fun pins s σ H D I h => ?_⟩
  refine wpAny_Assign_stores ?_ hs hw
  refine PyProof.Rows.Tuple_ (thn (ha.run _ pins s σ H _ I h) fun us s1 ⟨vs, H1, I1, r1, q1⟩ => ?_)
  obtain ⟨v, w, e1, q1⟩ := q1
  subst e1
  obtain ⟨u1, u2, rfl, rv, rw'⟩ : ∃ u1 u2, us = [u1, u2] ∧ RelV v u1 ∧ RelV w u2 := by
    cases r1 with
    | cons p q =>
      cases q with
      | cons p' q' =>
        cases q'
        exact ⟨_, _, rfl, p, p'⟩
  refine wpAny_newObj_type ?_ (by show 2 ≤ sizeLine; decide)
  have I2 : Inv X pins σ H1 { s1 with heap := s1.heap.push { cls := .type "tuple", data := .seq [u1, u2].toArray } } := I1.kept (t' := s1.toks) fun b o e => Heap.get?_push_of_some _ e
  show wpAny (model X.prog X.w) X.A (assign (.Tuple [.Name x px, .Name y py] kt pt) X.env (.ref s1.heap.objs.size)) _ _ _
  refine PyProof.Rows.assign_Tuple_tuple (items := #[u1, u2]) (I.ok.hd hc) (PyProof.Rows.IsTup.new s1.heap _) rfl rfl fun h' hx' => ?_
  have I3 := I2.kept (h' := h') (t' := s1.toks) fun b o e => hx' b o (Nat.ne_of_lt (Heap.lt_size e)) e
  have pg : PGs X [.Name x px, .Name y py] _ := pgs_cons (pg_name (i := i) hN hi hx fx) (pgs_cons (pg_name (i := j) hN hj hy fy) pgs_nil)
  exact pg.run pins _ σ H1 [v, w] [u1, u2] _ I3 (.cons rv (.cons rw' .nil)) ⟨_, _, rfl, _, _, rfl, rfl, q1⟩
theorem okS_parC {c : C0} {x y : Str} {a b : Expr} {px py pos : Pos} {fa fb : Rho → Option W} {k1 k2} {p1 p2 : Pos} (i j : Nat) (hN : c.N[i]? = some x) (hl : Loc c.sc x) (hN2 : c.N[j]? = some y) (hl2 : Loc c.sc y) (hij : i ≠ j) (ha : OkE c a fa) (hb : OkE c b fb)
    (hf : c.fa = true ∨ c.sc.names.lookup x = some .local := by first | exact .inl rfl | exact .inr rfl) (hf2 : c.fa = true ∨ c.sc.names.lookup y = some .local := by first | exact .inl rfl | exact .inr rfl)
    (hw : ∀ env : Env, env.scope = c.sc → swappedStores [.Tuple [.Name x px, .Name y py] k1 p1] (.Tuple [a, b] k2 p2) env = pure none := by intro env h; cases env; simp only at h; subst h; rfl)
    (hs : ∀ env, starEach [a, b] env = (false, eval a env) :: starEach [b] env := by intro _; rfl) (hs2 : ∀ env, starEach [b] env = [(false, eval b env)] := by intro _; rfl) :
    OkS c (.Assign [.Tuple [.Name x px, .Name y py] k1 p1] (.Tuple [a, b] k2 p2) pos) (sPar i j fa fb) :=
  okS_par i j hN hl hN2 hl2 hij ha hb (fun X gd ta hA => ps_parC gd.calm (by rw [gd.hN]; exact gd.nd) (by rw [gd.hN]; exact hN) (by rw [gd.hN]; exact hN2) (by rw [gd.hsc]; exact hl) (by rw [gd.hsc]; exact hl2) (gd.st hf) (gd.st hf2) hA (hw X.env gd.hsc) rfl) hs hs2
end Nm
namespace Nm
open PySem L2
/-! ### rising, each once -/
def ins (k : Int) : List Int → List Int
  | [] => [k]
  | x :: r => if k < x then k :: x :: r else if k = x then x :: r else x :: ins k r
def srt (ns : List Int) : List Int := ns.foldr ins []
theorem mem_ins (k j : Int) : ∀ l : List Int, j ∈ ins k l ↔ j = k ∨ j ∈ l
  | [] => by simp [ins]
  | x :: r => by
    unfold ins
    split
    · simp
    · split
      · rename_i h; subst h; simp
      · rw [List.mem_cons, mem_ins k j r, List.mem_cons]
        constructor
        · rintro (h | h | h)
          · exact .inr (.inl h)
          · exact .inl h
          · exact .inr (.inr h)
        · rintro (h | h | h)
          · exact .inr (.inl h)
          · exact .inl h
          · exact .inr (.inr h)
theorem mem_srt (j : Int) : ∀ l : List Int, j ∈ srt l ↔ j ∈ l
  | [] => by simp [srt]
  | x :: r => by
    show j ∈ ins x (srt r) ↔ _
    rw [mem_ins, mem_srt j r, List.mem_cons]
theorem pw_ins (k : Int) : ∀ l : List Int, l.Pairwise (· < ·) → (ins k l).Pairwise (· < ·)
  | [], _ => by simp [ins]
  | x :: r, h => by
    obtain ⟨h1, h2⟩ := List.pairwise_cons.mp h
    unfold ins
    split
    · rename_i q
      refine List.pairwise_cons.mpr ⟨fun y hy => ?_, h⟩
      rcases List.mem_cons.mp hy with rfl | hy
      · exact q
      · exact Int.lt_trans q (h1 y hy)
    · split
      · exact h
      · refine List.pairwise_cons.mpr ⟨fun y hy => ?_, pw_ins k r h2⟩
        rcases (mem_ins k y r).mp hy with rfl | hy
        · omega
        · exact h1 y hy
theorem pw_srt : ∀ l : List Int, (srt l).Pairwise (· < ·)
  | [] => .nil
  | x :: r => pw_ins x _ (pw_srt r)
theorem pw_uniq : ∀ (a b : List Int), a.Pairwise (· < ·) → b.Pairwise (· < ·) → (∀ k, k ∈ a ↔ k ∈ b) → a = b
  | [], [], _, _, _ => rfl
  | [], y :: b, _, _, h => absurd ((h y).mpr List.mem_cons_self) List.not_mem_nil
  | x :: a, [], _, _, h => absurd ((h x).mp List.mem_cons_self) List.not_mem_nil
  | x :: a, y :: b, ha, hb, h => by
    obtain ⟨a1, a2⟩ := List.pairwise_cons.mp ha
    obtain ⟨b1, b2⟩ := List.pairwise_cons.mp hb
    have e : x = y := by
      rcases List.mem_cons.mp ((h x).mp List.mem_cons_self) with q | q
      · exact q
      · rcases List.mem_cons.mp ((h y).mpr List.mem_cons_self) with r | r
        · exact r.symm
        · have := a1 y r; have := b1 x q; omega
    subst e
    rw [pw_uniq a b a2 b2 fun k => ?_]
    constructor
    · intro q
      rcases List.mem_cons.mp ((h k).mp (List.mem_cons_of_mem _ q)) with r | r
      · subst r; have := a1 k q; omega
      · exact r
    · intro q
      rcases List.mem_cons.mp ((h k).mpr (List.mem_cons_of_mem _ q)) with r | r
      · subst r; have := b1 k q; omega
      · exact r
theorem srt_of {a ns : List Int} (h : a.Pairwise (· < ·)) (m : ∀ k, k ∈ a ↔ k ∈ ns) : a = srt ns := pw_uniq _ _ h (pw_srt ns) fun k => by rw [m k, mem_srt]
theorem srt_ext {a b : List Int} (h : ∀ k, k ∈ a ↔ k ∈ b) : srt a = srt b := pw_uniq _ _ (pw_srt a) (pw_srt b) fun k => by rw [mem_srt, mem_srt, h k]
theorem srt_len (l : List Int) : (srt l).length ≤ l.length := by
  have key : ∀ (k : Int) (r : List Int), (ins k r).length ≤ r.length + 1 := fun k r => by
    induction r with
    | nil => simp [ins]
    | cons x r ih =>
      unfold ins
      split
      · simp
      · split
        · simp
        · simp only [List.length_cons]; omega
  induction l with
  | nil => simp [srt]
  | cons x r ih =>
    show (ins x (srt r)).length ≤ _
    have := key x (srt r)
    simp only [List.length_cons]; omega
/-- as many unlike ones, as many rising ones -/
theorem count_srt : ∀ (ks ns : List Int), ks.Nodup → (∀ k, k ∈ ks ↔ k ∈ ns) → ks.length = (srt ns).length := fun ks ns hn hm => by
  have h : ks.Perm (srt ns) := by
    refine (List.perm_ext_iff_of_nodup hn ?_).mpr fun k => by rw [hm k, mem_srt]
    exact (pw_srt ns).imp fun h => Int.ne_of_lt h
  exact h.length_eq
/-! ### set(list of ints) -/
abbrev newSet (w : World) : Obj := { cls := .type "set", dict := none, data := .set #[] 0 (.fresh 0 0 (!w.params.followText "set-order")) }
section
variable {P : Program} {w : World} {A : Around} {E : Value → Shared → Prop} {s : Shared}
theorem set_of_list {l : Addr} {items : Array Value} (ns : List Int) {Q : Value → Shared → Prop} (hh : A.handled = none) (hl : s.heap.IsList l items) (hit : PyProof.Rows.IntsAre items.toList ns) (hb : ns.length + 1 < scanBound)
    (h : ∀ (h' : Heap) (tk c : Nat), SetR w h' s.heap.objs.size (fun j => decide (j ∈ ns)) c → (∀ b o, s.heap.get? b = some o → h'.get? b = some o) → Q (.ref s.heap.objs.size) { s with heap := h', toks := tk }) :
    wpAny (model P w) A (call (.type "set") [.ref l]) Q E s := by
  have sz : items.size = ns.length := by
    have q := PyProof.Rows.IntsAre.length hit
    rwa [Array.length_toList] at q
  obtain ⟨c, tl, hmro⟩ := F.called_set.mro
  have f1 := F.called_set.made
  have f2 := F.called_set.sub
  refine wpAny_call (codeAny_of_tree ?_)
  show wpAny _ _ (callAny (.type "set") _) _ _ _
  refine wpAny_pure ⟨Code.quiet_builtin _ (by decide +kernel), codeAny_builtin F.entry_type_call ?_⟩
  rw [Around.under_plain (weight_type_call_type "set" [.ref l] []) rfl]
  have f3 := F.called_set.notType
  have f4 := F.called_set.canCreate
  have f5 := F.typeCall_set_1 (.ref l)
  repeat (any_goals (first | assumption | wp_step))
  refine codeAny_mono (code_set_led1 (.ref l) (E := E) (Q₁ := fun o z => o = .ref s.heap.objs.size ∧ z = { s with heap := s.heap.push (newSet w) }) ⟨rfl, rfl⟩) fun r z hr => ?_
  cases r with
  | error e => exact hr
  | ok fl =>
    cases fl with
    | ret obj =>
      obtain ⟨rfl, rfl⟩ := hr
      have gS : (s.heap.push (newSet w)).get? s.heap.objs.size = some (newSet w) := Heap.get?_push_size _ rfl
      have gT : Shared.TypeIs { s with heap := s.heap.push (newSet w) } (.ref s.heap.objs.size) "set" := ⟨_, gS, rfl⟩
      have f6 := F.called_set.init.lookup
      have f7 := F.called_set.init.bind (.ref s.heap.objs.size)
      repeat (any_goals (first | assumption | wp_step))
      refine codeAny_mono (codeAny_call_builtin (R := wants (fun r z => r = .none ∧ ∃ h' tk c, z = { s with heap := h', toks := tk } ∧ SetR w h' s.heap.objs.size (fun j => decide (j ∈ ns)) c ∧ (∀ b o, s.heap.get? b = some o → h'.get? b = some o)) E)
        F.called_set.init.plain F.entry_set_init (check_set_init_1 gT ?_)) fun r2 z2 hr2 => ?_
      · obtain ⟨⟨oc, od, odt, osl⟩, g1, g2, nl, g3⟩ := hl
        simp only at g2 g3
        subst g2; subst g3
        have g4 : (s.heap.push (newSet w)).get? l = some ⟨.type "list", od, .seq items nl, osl⟩ := Heap.get?_push_of_some _ g1
        have f8 := F.sub_list_set
        have f9 := F.sub_list_frozenset
        have ne : (Value.type "list" == Value.type "dict") = false := by decide
        have il : (s.heap.push (newSet w)).IsList l items := ⟨_, g4, rfl, nl, rfl⟩
        unfold Builtin.«set.__init__» noKeywords Builtin.Frozenset.updateFrom
        generalize hPI : pyIter = PI
        wp_walk
        subst hPI
        refine wpAny_pyIter_list il ?_
        refine wpAny_bind (wpAny_runValue ?_)
        have lt : l < s.heap.objs.size := Heap.lt_size g1
        have h3 : A.in1.in1.in1.handled = none := by simp [hh]
        have n1 : l ≠ (s.heap.push (newSet w)).objs.size := by rw [Heap.size_push]; exact Nat.ne_of_lt (Nat.lt_succ_of_lt lt)
        have n2 : s.heap.objs.size ∉ [(s.heap.push (newSet w)).objs.size, l] := by
          rw [Heap.size_push]
          intro z
          rcases List.mem_cons.mp z with z | z
          · exact absurd z (Nat.ne_of_lt (Nat.lt_succ_self _))
          · exact absurd (List.mem_singleton.mp z) (Nat.ne_of_gt lt)
        have val : ∀ (i : Nat) (v : Value), items[i]? = some v → ∃ k t, ns[i]? = some k ∧ v = .int k t := fun i v hv => by
          have hi : i < ns.length := by rw [← sz]; exact (Array.getElem?_eq_some_iff.mp hv).1
          obtain ⟨t, e⟩ := PyProof.Rows.IntsAre.int_at hit i v (by rw [Array.getElem?_toList]; exact hv)
          refine ⟨ns[i], t, List.getElem?_eq_getElem hi, ?_⟩
          rw [e, List.getD_eq_getElem?_getD, List.getElem?_eq_getElem hi]
          rfl
        refine set_update_ints ((Walks.list h3 _ l n1 items).toS) s.heap.objs.size n2 ns sz hb val (items.size - 0) 0 _ (by omega) (Nat.zero_le _)
          ⟨⟨_, Heap.get?_push_size _ rfl, rfl, rfl⟩, (il.push _)⟩ ⟨0, Nat.le_refl 0, setR_new_at (Heap.get?_push_of_some _ gS)⟩ ?_
        intro z c' hm hc' hS'
        obtain ⟨h', g2, d', tk', os'⟩ := z
        have eg : g2 = s.gens := hm.gens
        have ed : d' = s.drawn := hm.drawn
        have eo : os' = s.os := hm.os
        subst eg; subst ed; subst eo
        show wpAny _ _ _ _ _ _
        refine wpAny_pure ?_
        show wpAny _ _ (ret Value.none) _ _ _
        refine wpAny_pure ⟨rfl, h', tk', c', rfl, hS', fun b o e => ?_⟩
        have lb : b < s.heap.objs.size := Heap.lt_size e
        refine hm.heap b o (fun z => ?_) (Heap.get?_push_of_some _ (Heap.get?_push_of_some _ e))
        rcases List.mem_cons.mp z with z | z
        · exact absurd z (Nat.ne_of_lt lb)
        · have q := List.mem_singleton.mp z
          rw [Heap.size_push] at q
          exact absurd q (Nat.ne_of_lt (Nat.lt_succ_of_lt lb))
      · cases r2 with
        | error e => exact hr2
        | ok fl2 =>
          cases fl2 with
          | ret r =>
            obtain ⟨rfl, h', tk, c', rfl, hS', hk'⟩ := hr2
            repeat (any_goals (first | assumption | wp_step))
            exact h _ _ _ hS' hk'
          | _ => exact hr2.elim
    | _ => exact hr.elim
end
def rSetL (w : World) (K : PySem.W.Frag) : List V → Hp → VK → Prop := fun vs H Q => ∃ (l : Addr) (ns : List Int), vs = [.ref l] ∧ SqL K H l (ns.map V.int) ∧ ns.length + 1 < scanBound ∧
  ∀ p, H p = none → Q (.ref p) (upd H p (SetO w p (fun j => decide (j ∈ ns)) (srt ns).length))
theorem cr_setL {X : Cx} (hc : X.calm = true) : CallR X (.type "set") (rSetL X.w X.K) := by
  intro pins s σ H vs us Q I r h
  obtain ⟨l, ns, rfl, hq, hb, q⟩ := h
  rw [Vals.ref1 r]
  obtain ⟨its, r, pl, hz⟩ := I.list hq
  refine set_of_list (I.ok.hd hc) pl.isList (ns := ns) (by simpa using r.ints) hb fun h' tk c hS hk => ?_
  have hc : c = (srt ns).length := by
    obtain ⟨o, es, ep, t, _, _, _, _, nd, mem, _, _, hn, _⟩ := hS
    have := count_srt _ ns nd fun k => by rw [← mem k]; exact decide_eq_true_iff
    rw [List.length_map, Array.length_toList, hn] at this
    exact this
  subst hc
  exact ⟨.ref s.heap.objs.size, _, I.laid (t' := tk) hk (Nat.le_refl _) (setO_new hS), rfl, q _ (I.hok.fresh (Nat.le_refl _))⟩
/-- sorted(set(xs)) -/
def lSrt (f : Rho → Option W) : Rho → Option (List PyData) := fun r => match f r with
  | some (.d (.list ds)) => match its ds with
    | some ns => if ns.length ≤ 4000 ∧ (srt ns).length < 64 then some ((srt ns).map .int) else none
    | none => none
  | _ => none
theorem boot_sorted : bootBuiltins "sorted" = some (.builtin "sorted") := by decide +kernel
theorem boot_set' : bootBuiltins "set" = some (.type "set") := by decide +kernel
theorem ok_srt {c : C0} {e : Expr} {f : Rho → Option W} {p p2 q2 pos : Pos} (hb : ("sorted" : Str) ∈ c.T.bl) (hk : c.sc.names.lookup ("sorted" : Str) = some .globalImplicit) (hb2 : ("set" : Str) ∈ c.T.bl) (hk2 : c.sc.names.lookup ("set" : Str) = some .globalImplicit)
    (ha : OkE c e f) (hs : ∀ env, starEach [e] env = [(false, eval e env)] := by intro _; rfl) : OkL c (.Call (.Name "sorted" p) [.Call (.Name "set" p2) [e] [] q2] [] pos) (lSrt f) := fun X gd r w h => by
  unfold lSrt at h
  split at h
  · rename_i ds e1
    split at h
    · rename_i ns e2
      split at h
      · rename_i hc
        cases h
        have h1 := pe_callTy (p := p2) (pos := q2) (cr_setL gd.calm) ((gd.kind _).trans hk2) (gd.tab.bl _ hb2) boot_set' (pa_cons (ha X gd r _ e1) pa_nil (hs X.env)) (he := hs X.env)
        refine pe_imp (pe_callB (cr_sortedSet gd.calm) ((gd.kind _).trans hk) (gd.tab.bl _ hb) boot_sorted (pa_cons h1 pa_nil rfl)) fun s H Q q => ⟨q.1, fun v H1 s1 hv => ?_⟩
        cases hv with
        | lst hs ha =>
          have ev := its_of e2 ha
          subst ev
          refine ⟨_, ns, rfl, hs, by have := hc.1; unfold scanBound; omega, fun p0 hp0 => ?_⟩
          refine ⟨p0, _, _, rfl, upd_same, hc.2, fun ms p1 hpw hm hl hp1 => ?_⟩
          have em : ms = srt ns := srt_of hpw fun k => by rw [hm k]; exact decide_eq_true_iff
          subst em
          have s2 := same_new hp0 (SetO X.w p0 (fun j => decide (j ∈ ns)) (srt ns).length)
          refine q.2 p1 _ _ (s1.free (s2.free hp1)) (s1.trans (s2.trans (same_new hp1 _))) upd_same (dpa_ints _)
      · cases h
    · cases h
  · cases h
/-! ### xs.count(k), ints -/
def wCnt : W → W → Option W
  | .d (.list ds), .d (.int k) => match its ds with
    | some ns => some (.d (.int (ns.count k : Nat)))
    | none => none
  | _, _ => none
/-! ### tuples of the module -/
def GdAt (K : PySem.W.Frag) (x : Str) (d : PyData) : Prop := ∃ v u, PySem.W.nsIn K mainGlobals x = some (some u) ∧ RelV v u ∧ ∀ H, Dp K H v d
def lits : List Value → Option (List PyData)
  | [] => some []
  | .str x _ :: r => match lits r with
    | some ds => some (.str x :: ds)
    | none => none
  | .int i _ :: r => match lits r with
    | some ds => some (.int i :: ds)
    | none => none
  | _ => none
theorem lits_ok {K : PySem.W.Frag} : ∀ {us : List Value} {ds : List PyData}, lits us = some ds → ∃ vs, Vals vs us ∧ ∀ H, DpAll K H vs ds
  | [], ds, h => by cases h; exact ⟨[], .nil, fun _ => .nil⟩
  | .str x t :: r, ds, h => by
    unfold lits at h
    split at h
    · rename_i es e
      cases h
      obtain ⟨vs, h1, h2⟩ := lits_ok (K := K) e
      exact ⟨.str x :: vs, .cons ⟨t, rfl⟩ h1, fun H => .cons (.str x) (h2 H)⟩
    · cases h
  | .int x t :: r, ds, h => by
    unfold lits at h
    split at h
    · rename_i es e
      cases h
      obtain ⟨vs, h1, h2⟩ := lits_ok (K := K) e
      exact ⟨.int x :: vs, .cons ⟨t, rfl⟩ h1, fun H => .cons (.int x) (h2 H)⟩
    · cases h
  | .none :: r, ds, h => by cases h
  | .bool _ :: r, ds, h => by cases h
  | .ref _ :: r, ds, h => by cases h
  | .type _ :: r, ds, h => by cases h
  | .builtin _ :: r, ds, h => by cases h
  | .bytes _ _ :: r, ds, h => by cases h
  | .float _ _ :: r, ds, h => by cases h
  | .ellipsis :: r, ds, h => by cases h
  | .notImplemented :: r, ds, h => by cases h
theorem gdAt_mk {K : PySem.W.Frag} {x : Str} {a : Addr} {od : Option Addr} {its : Array Value} {n : Nat} {sl : Array (Option Value)} {ds : List PyData} (h1 : PySem.W.nsIn K mainGlobals x = some (some (.ref a)))
    (h2 : K.lookup a = some ⟨.type "tuple", od, .seq its n, sl⟩) (h3 : its.size ≤ 1000) (h4 : lits its.toList = some ds) : GdAt K x (.tuple ds) := by
  obtain ⟨vs, v1, v2⟩ := lits_ok (K := K) h4
  exact ⟨.ref a, .ref a, h1, rfl, fun H => .tup (.inr ⟨_, its, n, h2, rfl, rfl, sz (by omega), v1⟩) (v2 H)⟩
end Nm
namespace Nm
open PySem L2
theorem ok_cnt {c : C0} {o e : Expr} {fa fb : Rho → Option W} {apos cpos : Pos} (ho : OkE c o fa) (he : OkE c e fb)
    (hbase : ∀ env, attributeBase o "count" env (eval o env) = eval o env := by intro _; rfl) (hline : (apos.endLine == cpos.line) = true := by rfl)
    (hfew : ∀ env, ((backTo cpos (starEach [e] env)).all (fun x => !x.1) && (backToKw cpos (keywordEach [] env)).all (fun x => x.1.isSome)
      && decide ([e].length + ([] : List Keyword).length + (if ([] : List Keyword).isEmpty then 0 else 1) < 30)) = true := by intro _; rfl)
    (hs : ∀ env, starEach [e] env = [(false, eval e env)] := by intro _; rfl) : OkE c (.Call (.Attribute o "count" apos) [e] [] cpos) (cOp2 wCnt fa fb) := fun X gd r w h => by
  obtain ⟨x, y, e1, e2, e3⟩ := cOp2_some h
  refine pe_imp (pe_bm PySem.F.plainAttrs_list PySem.F.slot_list_count PySem.F.type_list_count mt_lcount (ho X gd r _ e1) (pa_cons (he X gd r _ e2) pa_nil (hs X.env)) (hbase X.env) (hfew X.env) hline (hs X.env)) fun s H Q q => ⟨q.1, fun v H1 s1 hv => ?_⟩
  unfold wCnt at e3
  split at e3
  · rename_i ds k
    split at e3
    · rename_i ns en
      cases e3
      have hv0 := hv
      cases hv with
      | lst hs ha =>
        refine ⟨.inl ⟨rfl, _, hs⟩, rv_mono s1 q.1, fun u H2 s2 hu => ?_⟩
        obtain rfl := int_of hu
        have ev := its_of en (dpa_mono s2 _ _ ha)
        subst ev
        exact ⟨_, ns, k, rfl, rfl, s2.seq hs, q.2 _ H2 (s1.trans s2) (Dp.int _)⟩
    · cases e3
  · cases e3
end Nm
namespace Nm
open PySem L2
/-! ### a if t else b as a test -/
theorem pt_ifExp {X : Cx} {t a b : Expr} {pos : Pos} {tt ta tb : TT} (hc : PT X t tt) (ha : PT X a ta) (hb : PT X b tb) : PT X (.IfExp t a b pos) (fun σ H Q => tt σ H fun c H1 => if c = true then ta σ H1 Q else tb σ H1 Q) := by
  refine ⟨fun pins s σ H Q I h => ?_⟩
  have e : PySem.isTrue (.IfExp t a b pos) X.env (eval (.IfExp t a b pos) X.env) = (do if ← PySem.isTrue t X.env (eval t X.env) then PySem.isTrue a X.env (eval a X.env) else PySem.isTrue b X.env (eval b X.env)) := by
    rw [PySem.isTrue]
  rw [e]
  refine wpAny_bind (thn (hc.run pins s σ H _ I h) fun d s1 ⟨H1, I1, q1⟩ => ?_)
  cases d with
  | true => exact ha.run pins s1 σ H1 Q I1 q1
  | false => exact hb.run pins s1 σ H1 Q I1 q1
def qIf (q f g : Rho → Option Bool) : Rho → Option Bool := fun r => match q r with
  | some true => f r
  | some false => g r
  | none => none
theorem okT_if {c : C0} {t a b : Expr} {pos : Pos} {q f g : Rho → Option Bool} (ht : OkT c t q) (ha : OkT c a f) (hb : OkT c b g) : OkT c (.IfExp t a b pos) (qIf q f g) := fun X gd r k h => by
  unfold qIf at h
  split at h
  · rename_i e
    exact pt_imp (pt_ifExp (ht X gd r true e) (ha X gd r k h) pt_never) fun s H Q h => ⟨h.1, fun H1 e1 => iteT ⟨rv_mono e1 h.1, fun H2 e2 => h.2 H2 (e1.trans e2)⟩⟩
  · rename_i e
    exact pt_imp (pt_ifExp (ht X gd r false e) pt_never (hb X gd r k h)) fun s H Q h => ⟨h.1, fun H1 e1 => iteF ⟨rv_mono e1 h.1, fun H2 e2 => h.2 H2 (e1.trans e2)⟩⟩
  · cases h
/-! ### a dict of the module -/
def cGk (kvs : List (Str × PyData)) (f : Rho → Option W) : Rho → Option W := fun r => match f r with
  | some (.d (.str z)) => match kvs.lookup z with
    | some d => some (.d d)
    | none => none
  | _ => none
theorem ok_gk {c : C0} {x : Str} {px pos : Pos} {e : Expr} {f : Rho → Option W} {kvs : List (Str × PyData)} (hk : c.sc.names.lookup x = some .globalImplicit) (hg : c.T.gk x = some kvs) (he : OkE c e f) (hd : (x == ("__debug__" : Str)) = false := by decide) (hs : PlainIx e := by intro _ _; rfl) :
    OkE c (.Subscript (.Name x px) e pos) (cGk kvs f) := fun X gd r w h => by
  unfold cGk at h
  split at h
  · rename_i z e1
    split at h
    · rename_i d e2
      cases h
      obtain ⟨a, h1, h2⟩ := gd.tab.gk x _ hg
      obtain ⟨v, h3, h4⟩ := h2 z d e2
      refine pe_imp (pe_ix ix_kdict (pe_glob (v := .ref a) ((gd.kind x).trans hk) h1 rfl hd) (he X gd r _ e1) hs) fun s H Q q => ⟨q.1, fun y H1 s1 hy => ?_⟩
      have hy : Dp X.K H1 y (.str z) := hy
      cases hy
      exact ⟨a, z, v, rfl, rfl, h3, q.2 v H1 s1 (h4 H1)⟩
    · cases h
  · cases h
/-- a written value of the module -/
def LitV (K : PySem.W.Frag) (u : Value) (d : PyData) : Prop := ∃ v, RelV v u ∧ ∀ H, Dp K H v d
theorem litV_str {K : PySem.W.Frag} {x : Str} {t : Tok} : LitV K (.str x t) (.str x) := ⟨.str x, ⟨t, rfl⟩, fun _ => .str x⟩
theorem litV_int {K : PySem.W.Frag} {i : Int} {t : Tok} : LitV K (.int i t) (.int i) := ⟨.int i, ⟨t, rfl⟩, fun _ => .int i⟩
theorem litV_two {K : PySem.W.Frag} {a : Addr} {od : Option Addr} {u v : Value} {n : Nat} {sl : Array (Option Value)} {x y : PyData} (l : K.lookup a = some ⟨.type "tuple", od, .seq #[u, v] n, sl⟩) (h1 : LitV K u x) (h2 : LitV K v y) : LitV K (.ref a) (.tuple [x, y]) := by
  obtain ⟨p, r1, d1⟩ := h1
  obtain ⟨q, r2, d2⟩ := h2
  exact ⟨.ref a, rfl, fun H => .tup (.inr ⟨_, #[u, v], n, l, rfl, rfl, sz (by decide : 2 ≤ 100000), .cons r1 (.cons r2 .nil)⟩) (.cons (d1 H) (.cons (d2 H) .nil))⟩
def GkAt (K : PySem.W.Frag) (w : World) (x : Str) (kvs : List (Str × PyData)) : Prop := ∃ a, PySem.W.nsIn K mainGlobals x = some (some (.ref a)) ∧ ∀ z d, kvs.lookup z = some d → ∃ v, KDct K w a z v ∧ ∀ H, Dp K H v d
def GkAll (K : PySem.W.Frag) (a : Addr) : List (Str × PyData) → Prop
  | [] => True
  | (z, d) :: r => (∃ u, PySem.W.nsIn K a z = some (some u) ∧ LitV K u d) ∧ GkAll K a r
theorem gkAll_cons {K : PySem.W.Frag} {a : Addr} {z : Str} {d : PyData} {u : Value} {r : List (Str × PyData)} (h1 : PySem.W.nsIn K a z = some (some u)) (h2 : LitV K u d) (h3 : GkAll K a r) : GkAll K a ((z, d) :: r) := ⟨⟨u, h1, h2⟩, h3⟩
theorem gkAll_at {K : PySem.W.Frag} {a : Addr} : ∀ {kvs : List (Str × PyData)}, GkAll K a kvs → ∀ z d, kvs.lookup z = some d → ∃ u, PySem.W.nsIn K a z = some (some u) ∧ LitV K u d
  | [], _, z, d, h => by cases h
  | (y, e) :: r, h, z, d, q => by
    rw [List.lookup_cons] at q
    split at q
    · rename_i s
      cases q
      rw [eq_of_beq s]
      exact h.1
    · exact gkAll_at h.2 z d q
theorem gkAt_mk {K : PySem.W.Frag} {w : World} {x : Str} {a : Addr} {es : Array DictEntry} {n : Nat} {kvs : List (Str × PyData)} (h1 : PySem.W.nsIn K mainGlobals x = some (some (.ref a))) (h2 : K.lookup a = some ⟨.type "dict", none, .dict es n, #[]⟩) (h3 : PySem.W.KeysLit w.params es.toList) (h4 : GkAll K a kvs) : GkAt K w x kvs :=
  ⟨a, h1, fun z d q => by
    obtain ⟨u, e, v, r, hd⟩ := gkAll_at h4 z d q
    exact ⟨v, ⟨es, n, u, h2, h3, e, r⟩, hd⟩⟩
/-! ### int(b) -/
def wIntc : W → Option W
  | .d (.int i) => some (.d (.int i))
  | .d (.bool b) => some (.d (.int (if b then 1 else 0)))
  | _ => none
theorem boot_intT : bootBuiltins "int" = some (.type "int") := by decide +kernel
theorem ok_intc {c : C0} {e : Expr} {f : Rho → Option W} {p pos : Pos} (hb : ("int" : Str) ∈ c.T.bl) (hk : c.sc.names.lookup ("int" : Str) = some .globalImplicit) (ha : OkE c e f) (hs : ∀ env, starEach [e] env = [(false, eval e env)] := by intro _; rfl) :
    OkE c (.Call (.Name "int" p) [e] [] pos) (cOp1 wIntc f) := fun X gd r w h => by
  obtain ⟨x, e1, e2⟩ := cOp1_some h
  refine pe_imp (pe_callTy call_int1 ((gd.kind _).trans hk) (gd.tab.bl _ hb) boot_intT (pa_cons (ha X gd r _ e1) pa_nil (hs X.env)) (he := hs X.env)) fun s H Q q => ⟨q.1, fun v H1 s1 hv => ?_⟩
  unfold wIntc at e2
  split at e2
  · cases e2
    cases hv
    exact .inl ⟨_, rfl, q.2 _ H1 s1 (Dp.int _)⟩
  · cases e2
    cases hv
    exact .inr ⟨_, rfl, q.2 _ H1 s1 (Dp.int _)⟩
  · cases e2
end Nm
namespace Nm
open PySem L2 PySem.Spec PyProof.Rows
/-! ### the law's own def: called where no repr is under way -/
def RunG (P : Program) (w : World) (K : PySem.W.Frag) (mg : Str → Option Value) (base : Heap) (k : Nat) (f : Addr) (fd : FuncData) (ps : List Str) (sp : Sp) : Prop :=
  ∀ (A : Around) (env : List Env) (s : Shared) (M : Hp) (given : Args) (us : List Value) (vs : List V) (Q : VK) (E : XK), A.guards = some [] → Room k A → Env0 P w K mg base A env s M → BindsTo s fd given (ps.zip us) → Vals vs us → sp vs M Q E → vs.length = ps.length ∧
    codeAny (model P w) A (.call (.ref f) given) (CR CX0 env P w M s Q E) s
theorem run_of {P : Program} {w : World} {K : PySem.W.Frag} {mg : Str → Option Value} {base : Heap} {k : Nat} {f : Addr} {x qual : Str} {st : Stmt} {fd : FuncData} {N ps : List Str} {sp : Sp}
    (FN : Fun K x qual st f fd) (S : FnScope N ps (defScope st)) (long : ∀ vs M Q E, sp vs M Q E → vs.length = ps.length)
    (body : ∀ (cdv : Value) (A : Around) (env : List Env) (s : Shared) (M : Hp) (vs : List V) (Q : VK) (E : XK), A.guards = some [] → Room k (A.deeper (envOfC qual (defScope st) s.heap.objs.size f cdv)) → sp vs M Q E →
      ∃ t, PSs (cxOf CX0 P w K mg base N qual (defScope st) f cdv A env s M E).nox (defBody st) t ∧ t ⟨fun _ M' => Q .non M', Q, fun _ _ => False, fun _ _ => False⟩ (start N vs) M) : RunG P w K mg base (k + 1) f fd ps sp := by
  obtain ⟨oc, od, kV, doc, pm, an, cdv, ct, osl, rfl, lk, hcd⟩ := FN.ex
  intro A env s M given us vs Q E hg room e0 hb rel hsp
  have hl := long _ _ _ _ hsp
  refine ⟨hl, ?_⟩
  have KX : K.In s.heap := e0.mod.kin.keeps fun b o z => (e0.bs b o z).1
  have lim : s.heap.NoLimit := e0.mod.nolimit.keeps fun b o z => (e0.bs b o z).1
  refine codeAny_call_function room.depth (KX _ _ lk) rfl S.co S.gen rfl (PySem.W.codeRec_of KX hcd) (hb _ _ _ _ (wpAny_newFunctionEnv_cells S.kind ?_ ?_))
  · rintro ⟨n, v⟩ hy
    rcases S.par n (List.of_mem_zip hy).1 with q | q
    · exact .inl q
    · exact .inr ⟨q, PySem.W.cellsFrom_some _ _ _ (.inl q)⟩
  · intro own he s1 z
    subst he
    refine ⟨lim.keeps z.toInCall.keep, codeAny_func ?_⟩
    obtain ⟨t, ht, hq⟩ := body cdv A env s M vs Q E hg (room.deeper _) hsp
    have I := inv_start (CX := CX0) (E := E) S room.hd e0 hl rel z
    refine wpAny_mono (ht.nox.run [] s1 (start N vs) M _ I hq) (fun out s' hs => ?_) fun e s' hs => hs
    cases out with
    | next => obtain ⟨st', M', J, q⟩ := hs; exact ⟨V.non, M', J.os, J.bare, J.base, J.hok, rfl, q⟩
    | ret u => obtain ⟨v, st', M', J, rv, q⟩ := hs; exact ⟨v, M', J.os, J.bare, J.base, J.hok, rv, q⟩
    | brk => obtain ⟨_, _, _, q⟩ := hs; exact q.elim
    | cont => obtain ⟨_, _, _, q⟩ := hs; exact q.elim
section
variable {P : Program} {w : World} {K : PySem.W.Frag} {mg mb : Str → Option Value} {k : Nat} {f a : Addr} {fd : FuncData} {x : Str} {sp : Sp} {s0 : Shared} {vs : List Value} {ns : List Int}
/-- what is kept of the state ahead: only the script may be tracked, and it is frozen -/
theorem call_at (M : Hp) (KX : K.In s0.heap) (gl : s0.heap.Ns mainGlobals mg) (bu : s0.heap.Ns builtinsNs mb) (bb : ∀ x : Str, x ≠ "__name__" → mb x = bootBuiltins x) (nl : s0.heap.NoLimit) (gn : s0.gens = #[])
    (obj : s0.heap.get? a = some { cls := .type "list", data := .seq vs.toArray }) (room : Room k callerA)
    (R : ∀ base : Heap, K.In base → base.Ns mainGlobals mg → RunG P w K mg base k f fd [x] sp) (bind : ∀ (s : Shared) (u : Value), BindsTo s fd ⟨[u], []⟩ [(x, u)])
    (only : Only M) (hok : HOk P w M s0.heap) (alone : ∀ b, M b ≠ none → b = a ∧ K.lookup a = none) (hsp : sp [.ref a] M (fun v _ => v = .bl true) fun _ _ _ => False) :
    codeAny (model P w) callerA (.call (.ref f) ⟨[.ref a], []⟩) (fun r s' => r = .ok (.ret (.bool true)) ∧ OldK s0.heap s'.heap ∧ s'.os = s0.os ∧ AllBare s'.gens) s0 := by
  have none_of : ∀ {b : Addr}, ¬ (b = a ∧ K.lookup a = none) → M b = none := fun {b} h => by
    cases e : M b with
    | none => rfl
    | some u => exact absurd (alone b (by rw [e]; exact nofun)) h
  have dict_no : ∀ {b : Addr} {o : Obj} {es : Array DictEntry} {ep : Nat}, s0.heap.get? b = some o → o.data = .dict es ep → M b = none := fun {b o es ep} e d => none_of fun z => by
    rw [z.1, obj] at e
    cases e
    cases (d : Data.seq vs.toArray _ = Data.dict es ep)
  have ns_at : ∀ {b : Addr} {m : Str → Option Value}, s0.heap.Ns b m → (hidT s0.heap M).Ns b m := fun {b m} z => by
    obtain ⟨o, es, ep, e, d, r⟩ := z
    exact ⟨o, es, ep, hidT_get e (dict_no e d), d, r⟩
  have kin : K.In (hidT s0.heap M) := fun b o e => hidT_get (KX b o e) (none_of fun z => by rw [z.1, z.2] at e; cases e)
  have lim : (hidT s0.heap M).NoLimit := by
    obtain ⟨mc, h1, h2⟩ := nl
    exact ⟨mc, ns_at h1, h2⟩
  have e0 : Env0 P w K mg (hidT s0.heap M) callerA [] s0 M := ⟨rfl, ⟨kin, ns_at gl, ⟨mb, ns_at bu, bb⟩, lim⟩, fun b o e => of_hidT e, Nat.le_of_eq (hidT_size _ _), trivial, fun b z => (List.not_mem_nil z).elim, hok, .of_eq gn⟩
  have run := (R _ kin (ns_at gl) callerA [] s0 M ⟨[.ref a], []⟩ [.ref a] [.ref a] _ _ rfl room e0 (bind s0 (.ref a)) (.cons rfl .nil) hsp).2
  refine codeAny_mono run fun r s' z => ?_
  match r, z with
  | .ok (.ret u), ⟨v, M', os, bare, un, hok', rel, q⟩ =>
    cases (q : v = .bl true)
    cases (rel : u = Value.bool true)
    refine ⟨rfl, OldK.of_keep fun b o e => ?_, os, bare⟩
    rcases only b with n | ⟨ob, xs, n⟩
    · exact un.keep b o e n (fun z => (List.not_mem_nil z).elim) List.not_mem_nil
    · have e1 := (hok b _ n).1
      rw [e] at e1
      cases e1
      exact (hok' b _ (un.frzs b _ _ n)).1
theorem call_law (KX : K.In s0.heap) (gl : s0.heap.Ns mainGlobals mg) (bu : s0.heap.Ns builtinsNs mb) (bb : ∀ x : Str, x ≠ "__name__" → mb x = bootBuiltins x) (nl : s0.heap.NoLimit) (gn : s0.gens = #[])
    (obj : s0.heap.get? a = some { cls := .type "list", data := .seq vs.toArray }) (nums : IntsAre vs ns) (few : ns.length ≤ sizeLine) (room : Room k callerA)
    (R : ∀ base : Heap, K.In base → base.Ns mainGlobals mg → RunG P w K mg base k f fd [x] sp) (bind : ∀ (s : Shared) (u : Value), BindsTo s fd ⟨[u], []⟩ [(x, u)])
    (hsp : ∀ M : Hp, SqL K M a (ns.map V.int) → sp [.ref a] M (fun v _ => v = .bl true) fun _ _ _ => False) :
    codeAny (model P w) callerA (.call (.ref f) ⟨[.ref a], []⟩) (fun r s' => r = .ok (.ret (.bool true)) ∧ OldK s0.heap s'.heap ∧ s'.os = s0.os ∧ AllBare s'.gens) s0 := by
  have rel := vals_ints nums
  cases own : K.lookup a with
  | some o =>
    have e := KX a o own
    rw [obj] at e
    cases e
    refine call_at (fun _ => none) KX gl bu bb nl gn obj room R bind (fun _ => .inl rfl) (fun b u z => nomatch (z : (none : Option HO) = some u)) (fun b z => absurd rfl z) (hsp _ (.inr ⟨_, vs.toArray, _, own, rfl, rfl, rfl, ?_, by simpa using rel⟩))
    rw [List.size_toArray, nums.length]
    exact few
  | none =>
    let o : Obj := { cls := .type "list", data := .seq vs.toArray }
    have at_a : (fun b => if b = a then some (HO.frz o (.lst (ns.map V.int))) else none : Hp) a = some (HO.frz o (.lst (ns.map V.int))) := if_pos rfl
    have off : ∀ b, b ≠ a → (fun b => if b = a then some (HO.frz o (.lst (ns.map V.int))) else none : Hp) b = none := fun b h => if_neg h
    refine call_at (fun b => if b = a then some (HO.frz o (.lst (ns.map V.int))) else none) KX gl bu bb nl gn obj room R bind (fun b => ?_) (fun b u z => ?_) (fun b z => ⟨?_, own⟩) (hsp _ (.inl (.inr ⟨o, at_a⟩)))
    · by_cases h : b = a
      · subst h; exact .inr ⟨_, _, at_a⟩
      · exact .inl (off b h)
    · by_cases h : b = a
      · subst h
        rw [at_a] at z
        cases z
        exact ⟨obj, by rw [List.length_map]; exact few, vs, _, rel, obj⟩
      · rw [off b h] at z
        cases z
    · by_cases h : b = a
      · exact h
      · exact absurd (off b h) z
end
/-- the end, where the law is called by the claim itself -/
theorem walk_law {l : PySem.W.OpenLaw} {n k : Nat} {q : Program} {loose : List Str} {XP : (Str → Option Value) → Heap → Prop} {YP : World → Heap → Prop} {d : DefRec} {K : Params → PySem.W.Frag} {sp : World → Sp} {x : Str}
    (most : l.most = some n) (fits : n ≤ sizeLine) (plain : d.params.defaults = []) (room : Room k callerA) (kin : ∀ (w : World) (h : Heap), YP w h → (K w.params).In h)
    (F : ∀ (w : World) (mg : Str → Option Value) (fa : Addr) (h : Heap), (K w.params).In h → h.Ns mainGlobals mg → mg d.name = some (.ref fa) → ∃ fd : FuncData, (∀ (s : Shared) (u : Value), BindsTo s fd ⟨[u], []⟩ [(x, u)]) ∧
      ∀ base : Heap, (K w.params).In base → base.Ns mainGlobals mg → RunG l.prog w (K w.params) mg base k fa fd [x] (sp w))
    (hsp : ∀ (w : World) (M : Hp) (a : Addr) (ns : List Int), ns.length ≤ n → (∀ z ∈ ns, Builtin.Int.intBits z ≤ 1048576) → SqL (K w.params) M a (ns.map V.int) → sp w [.ref a] M (fun v _ => v = .bl true) fun _ _ _ => False) :
    PySem.W.WalkO q loose XP YP l.row.toRowW d [] (fun f vs => PySem.call f vs) :=
  Att.attach_callB most plain fun w s₀ s1 mg mb fa o pm cd doc a vs ns G Y ho hd hcd hmg obj nums few bits gn => by
    obtain ⟨fd, bind, R⟩ := F w mg fa _ (kin w _ Y) G.T.g hmg
    exact call_law (kin w _ Y) G.T.g G.T.b G.T.builtins G.T.nolimit gn obj nums (Nat.le_trans few fits) room R bind fun M hS => hsp w M a ns few bits hS
mutual
theorem hd_ndt : ∀ d : PyData, d.hasDict = false → ndt d = true
  | .none, _ => rfl
  | .bool _, _ => rfl
  | .int _, _ => rfl
  | .str _, _ => rfl
  | .list ds, h => hds_ndt ds (by simpa only [PyData.hasDict] using h)
  | .tuple ds, h => hds_ndt ds (by simpa only [PyData.hasDict] using h)
  | .dict _, h => by simp [PyData.hasDict] at h
theorem hds_ndt : ∀ ds : List PyData, PyData.hasDictAll ds = false → ndts ds = true
  | [], _ => rfl
  | d :: ds, h => by
    have h' : d.hasDict = false ∧ PyData.hasDictAll ds = false := by simpa only [PyData.hasDictAll, Bool.or_eq_false_iff] using h
    simp only [ndts, hd_ndt d h'.1, hds_ndt ds h'.2]; rfl
end
/-! ### str(x) -/
def shw (k : Nat) (d : PyData) : Option W := if d.showable = true ∧ d.hasDict = false ∧ d.shown.length ≤ 100000 ∧ d.depth ≤ 180 + 16 * k then some (.d (.str d.shown)) else none
def wStr (k : Nat) : W → Option W
  | .d (.str x) => some (.d (.str x))
  | .d (.int i) => if i.natAbs.log2 < 1920 then some (.d (.str (toString i))) else none
  | .d (.tuple ds) => shw k (.tuple ds)
  | .d (.list ds) => shw k (.list ds)
  | _ => none
def rShw (K : PySem.W.Frag) (k : Nat) : List V → Hp → VK → Prop := fun xs H Q => (∃ a, xs = [.str a] ∧ Q (.str a) H) ∨ (∃ i : Int, xs = [.int i] ∧ i.natAbs.log2 < 1920 ∧ Q (.str (toString i)) H) ∨
  ∃ (a : Addr) (d : PyData), xs = [.ref a] ∧ Dp K H (.ref a) d ∧ d.showable = true ∧ d.hasDict = false ∧ d.shown.length ≤ 100000 ∧ d.depth ≤ 180 + 16 * k ∧ Q (.str d.shown) H
theorem call_shw {X : Cx} {k : Nat} (hg : X.A.guards = some []) (room : Room k X.A) : CallR X (.type "str") (rShw X.K k) := by
  intro pins s σ H xs us Q I rel h
  rcases h with h | h | ⟨a, d, rfl, hd, h1, h2, h3, h4, q⟩
  · exact SkE.call_str_str pins s σ H xs us Q I rel h
  · exact call_str_int pins s σ H xs us Q I rel h
  · cases rel with
    | cons r1 r2 =>
      cases r2
      cases r1
      obtain ⟨as, rd⟩ := Dp.reads I d _ _ (hd_ndt d h2) hd rfl
      have un := room.un
      exact str_of_reads rd h1 (fun z => by rw [h2] at z; cases z) hg (by omega) (fun _ _ z => z) (fun h' u tk keep => ⟨.str d.shown, H, I.kept keep, ⟨u, rfl⟩, q⟩) (Nat.le_trans h3 (by decide))
theorem boot_strT : bootBuiltins "str" = some (.type "str") := by decide +kernel
theorem ok_strc {c : C0} {e : Expr} {f : Rho → Option W} {p pos : Pos} (hga : c.ga = true) (hb : ("str" : Str) ∈ c.T.bl) (hk : c.sc.names.lookup ("str" : Str) = some .globalImplicit) (ha : OkE c e f) (hs : ∀ env, starEach [e] env = [(false, eval e env)] := by intro _; rfl) :
    OkE c (.Call (.Name "str" p) [e] [] pos) (cOp1 (wStr c.k) f) := fun X gd r w h => by
  obtain ⟨x, e1, e2⟩ := cOp1_some h
  refine pe_imp (pe_callTy (call_shw (gd.gs hga) gd.room) ((gd.kind _).trans hk) (gd.tab.bl _ hb) boot_strT (pa_cons (ha X gd r _ e1) pa_nil (hs X.env)) (he := hs X.env)) fun s H Q q => ⟨q.1, fun v H1 s1 hv => ?_⟩
  have fin : ∀ (d : PyData) (a : Addr), v = .ref a → x = .d d → shw c.k d = some w → rShw X.K c.k [v] H1 Q := fun d a ea ex es => by
    subst ea ex
    unfold shw at es
    split at es
    · rename_i z
      cases es
      exact .inr (.inr ⟨a, d, rfl, hv, z.1, z.2.1, z.2.2.1, z.2.2.2, q.2 _ H1 s1 (Dp.str _)⟩)
    · cases es
  unfold wStr at e2
  split at e2
  · cases e2
    cases hv
    exact .inl ⟨_, rfl, q.2 _ H1 s1 (Dp.str _)⟩
  · split at e2
    · rename_i z
      cases e2
      cases hv
      exact .inr (.inl ⟨_, rfl, z, q.2 _ H1 s1 (Dp.str _)⟩)
    · cases e2
  · obtain ⟨a, rfl⟩ : ∃ a, v = .ref a := by cases hv; exact ⟨_, rfl⟩
    exact fin _ a rfl rfl e2
  · obtain ⟨a, rfl⟩ : ∃ a, v = .ref a := by cases hv; exact ⟨_, rfl⟩
    exact fin _ a rfl rfl e2
  · cases e2
end Nm
namespace Nm
open PySem L2 PySem.Spec PyProof.Rows
/-! ### an own list of things that may be lists -/
section
variable {c : C0} {pos : Pos} {e : Expr} {f : Rho → Option W} {x y : Str} {px py apos cpos : Pos}
/-- a display: what is in it was known ahead of it -/
def OkN (c : C0) (e : Expr) (f : Rho → Option (List PyData)) : Prop := ∀ X, Gd c X → ∀ r xs, f r = some xs → PE X e (fun s H Q => RV c.T X.K X.mg H s r ∧ ∀ p vs H1, Same H H1 → H1 p = none → DpAll X.K H1 vs xs → Q (.ref p) (upd H1 p (.lst vs)))
theorem ok_lstN {es : List Expr} {h : Rho → Option (List W)} (he : OkA c es h) : OkN c (.List es pos) (lLst h) := fun X gd r w q => by
  unfold lLst at q
  split at q
  · rename_i ws e1
    split at q
    · rename_i xs e2
      split at q
      · rename_i hz
        cases q
        refine pe_imp (pe_lst (he X gd r ws e1)) fun s H Q q => ⟨q.1, fun vs H1 s1 hv => ?_⟩
        have hd := wDs_all e2 hv
        exact ⟨by rw [dpa_len _ _ hd]; exact sz hz, fun p hp => q.2 p vs H1 s1 hp hd⟩
      · cases q
    · cases q
  · cases q
def sAsgN (i : Nat) (f : Rho → Option (List PyData)) : CS := fun r => match f r with
  | some xs => if noOwn r then some (.nx (r.set i (some (.own xs)))) else none
  | none => none
theorem okS_asgN {f : Rho → Option (List PyData)} (i : Nat) (hN : c.N[i]? = some x) (hl : Loc c.sc x) (he : OkN c e f) (hs : ∀ env l, swapsWith e (some (.Name x px)) l env = pure false := by intro _ _; rfl) (hf : c.fa = true ∨ c.sc.names.lookup x = some .local := by first | exact .inl rfl | exact .inr rfl) : OkS c (.Assign [.Name x px] e pos) (sAsgN i f) := fun X gd hx r o k => by
  unfold sAsgN at k
  split at k
  · rename_i xs e1
    split at k
    · rename_i hc
      cases k
      refine ps_imp (ps_set (i := i) (by rw [gd.hN]; exact gd.nd) (by rw [gd.hN]; exact hN) (by rw [gd.hsc]; exact hl) (he X gd r xs e1) (hs _ _) (gd.st hf)) fun D s H ⟨gh, He, q1, q2⟩ => ⟨q1.rv, fun p vs H1 s1 hp hd => q2 _ _ ?_⟩
      have q3 := (q1.step s1).free hc
      have mt : ∀ a, a = p → ∃ o, upd H1 p (.lst vs) a = some o ∧ MutO o := fun a z => ⟨.lst vs, by rw [z]; exact upd_same, trivial⟩
      have sub : Same H1 (mask (upd H1 p (.lst vs)) (fun a => a = p)) := ⟨fun b ob hb _ => by
        have hne : b ≠ p := fun z => by rw [z, hp] at hb; cases hb
        rw [mask_out (O := fun a => a = p) hne, upd_ne hne]
        exact hb, fun b hb => by
        by_cases z : b = p
        · rw [z]; exact hp
        · rw [mask_out (O := fun a => a = p) z, upd_ne z] at hb
          exact hb, fun P z => by
        have z2 := mask_tab (O := fun _ => False) (same_new hp (.lst vs)).tb mt P (by rw [mask_no]; exact z)
        exact z2⟩
      refine ⟨fun a => a = p, ⟨by rw [List.length_set, List.length_set]; exact q3.len, q3.ex.trans (same_new hp _), fun a z => ?_, fun j y q => ?_, fun j y q qo => ?_, fun j k y z a e1 e2 o1 o2 e3 e4 => ?_, q3.gm, ?_, q3.tb⟩⟩
      · rw [z]; exact ⟨q3.ex.free hp, _, upd_same, trivial⟩
      · rcases get_set q with ⟨rfl, hl, e1⟩ | ⟨hn, e1⟩
        · cases e1
        · rw [List.getElem?_set_ne (Ne.symm hn)]
          obtain ⟨v, h1, h2⟩ := q3.wv j _ e1
          rw [mask_no] at h2
          exact ⟨v, h1, rw_mono sub h2⟩
      · rcases get_set q with ⟨rfl, hl, e1⟩ | ⟨hn, e1⟩
        · cases e1
          exact ⟨p, _, List.getElem?_set_self (by rw [q3.len]; exact hl), rfl, upd_same, dpa_mono sub _ _ hd⟩
        · exact absurd e1 (noOwn_no hc qo)
      · rcases get_set e1 with ⟨rfl, hl, e5⟩ | ⟨hn, e5⟩
        · rcases get_set e2 with ⟨rfl, hl2, e6⟩ | ⟨hn2, e6⟩
          · rfl
          · exact absurd e6 (noOwn_no hc o2)
        · exact absurd e5 (noOwn_no hc o1)
      · have := q3.gp
        rw [mask_no] at this
        exact q3.gm _ _ sub this
    · cases k
  · cases k
/-- the list at a place of an own list, walked -/
def itNx (i : Nat) (f : Rho → Option W) : Rho → Option (List PyData) := fun r => match r[i]? with
  | some (some (.own xs)) => match f r with
    | some (.d (.int j)) => match atI xs j with
      | some (.list ds) => some ds
      | _ => none
    | _ => none
  | _ => none
theorem okI_own {tg : Expr} (i : Nat) (hN : c.N[i]? = some x) (hv : Vis c.sc x) (he : OkE c e f) (hs : PlainIx e := by intro _ _; rfl) (hd : (x == ("__debug__" : Str)) = false := by decide) (hcd : (x == ("__classdict__" : Str)) = false := by decide) :
    OkIt c tg (.Subscript (.Name x px) e pos) (itNx i f) := fun X gd r ds k => by
  unfold itNx at k
  split at k
  · rename_i xs e1
    split at k
    · rename_i j e2
      split at k
      · rename_i ds' e3
        cases k
        refine ⟨_, pi_list (pe_ix ix_seq (pe_var (i := i) (by rw [gd.hN]; exact hN) (by rw [gd.hsc]; exact hv) hd hcd) (he X gd r _ e2) hs), fun gh He s H q1 R k => ?_⟩
        obtain ⟨O, q1⟩ := q1
        obtain ⟨a, vs, h1, h2, h3, h4⟩ := q1.ov i xs e1
        refine ⟨_, h1, q1.rv, fun u H1 s1 hu => ?_⟩
        obtain rfl := int_of hu
        have q3 := q1.step s1
        obtain ⟨a', vs', h1', h2', h3', h4'⟩ := q3.ov i xs e1
        rw [h1] at h1'
        cases h1'
        obtain ⟨v, g1, g2⟩ := dpa_atI h4' e3
        refine .inl ⟨a, vs', j, v, rfl, rfl, SqL.of h3', g1, ?_⟩
        cases g2 with
        | lst hs ha => exact ⟨_, rfl, ⟨_, mask_sub.seq hs⟩, k _ H1 _ monoL s1 (RS.ghost q3 monoL ⟨hs, ha⟩) (wk_list (dpa_len _ _ ha))⟩
      · cases k
    · cases k
  · cases k
/-- xs.append(ys), ys an own list that is data from here on -/
def sAppN (i j : Nat) : CS := fun r => match r[i]? with
  | some (some (.own xs)) => match r[j]? with
    | some (some (.w (.d d))) => if xs.length < 100000 then some (.nx (r.set i (some (.own (xs ++ [d]))))) else none
    | _ => none
  | _ => none
theorem okS_appN (i j : Nat) (hN : c.N[i]? = some x) (hv : Vis c.sc x) (hN2 : c.N[j]? = some y) (hv2 : Vis c.sc y)
    (hfew : ∀ env, ((backTo cpos (starEach [.Name y py] env)).all (fun x => !x.1) && (backToKw cpos (keywordEach [] env)).all (fun x => x.1.isSome) && decide ([Expr.Name y py].length + ([] : List Keyword).length + (if ([] : List Keyword).isEmpty then 0 else 1) < 30)) = true := by intro _; rfl)
    (hline : (apos.endLine == cpos.line) = true := by rfl) (hd : (x == ("__debug__" : Str)) = false := by decide) (hcd : (x == ("__classdict__" : Str)) = false := by decide) (hd2 : (y == ("__debug__" : Str)) = false := by decide) (hcd2 : (y == ("__classdict__" : Str)) = false := by decide) :
    OkS c (.Expr (.Call (.Attribute (.Name x px) "append" apos) [.Name y py] [] cpos) pos) (sAppN i j) := fun X gd hx r o k => by
  unfold sAppN at k
  split at k
  · rename_i xs e1
    split at k
    · rename_i d e2
      split at k
      · rename_i hc
        cases k
        refine ps_imp (ps_expr (pe_bm PySem.F.plainAttrs_list PySem.F.slot_list_append PySem.F.type_list_append mt_append (pe_var (i := i) (by rw [gd.hN]; exact hN) (by rw [gd.hsc]; exact hv) hd hcd) (pa_cons (pe_var (i := j) (by rw [gd.hN]; exact hN2) (by rw [gd.hsc]; exact hv2) hd2 hcd2) pa_nil rfl) rfl (hfew X.env) hline rfl rfl) rfl) fun D s H ⟨gh, He, ⟨O, q1⟩, q2⟩ => ?_
        obtain ⟨a, vs, h1, h2, h3, h4⟩ := q1.ov i xs e1
        obtain ⟨v, g1, g2⟩ := q1.wv j _ e2
        refine ⟨_, h1, .inl ⟨rfl, _, SqL.of h3⟩, _, g1, ?_⟩
        exact ⟨a, vs, v, rfl, rfl, h3, by rw [dpa_len _ _ h4]; exact Nat.lt_of_lt_of_le hc (by decide), q2 _ _ ⟨O, q1.mut e1 h1 h2 (dpa_app _ _ _ _ h4 (.cons g2 .nil))⟩⟩
      · cases k
    · cases k
  · cases k
end
/-! ### {} -/
def mD0 : Rho → Option (List (Str × PyData)) := fun _ => some []
theorem ok_dict0 {c : C0} {pos : Pos} : OkM c (.Dict [] [] pos) mD0 := fun X gd r kvs k => by
  cases k
  exact pe_imp pe_dnewK fun s H Q q p hp => q.2 p [] _ hp (same_new hp _) upd_same ⟨rfl, .nil⟩
/-! ### texts in a row -/
theorem ltCps_irr : ∀ a : List Nat, ltCps a a = false
  | [] => rfl
  | x :: r => by simp [ltCps, ltCps_irr r]
theorem ltCps_tri : ∀ a b : List Nat, ltCps a b = false → ltCps b a = false → a = b
  | [], [], _, _ => rfl
  | [], _ :: _, h, _ => by cases h
  | _ :: _, [], _, h => by cases h
  | x :: r, y :: t, h1, h2 => by
    simp only [ltCps, Bool.or_eq_false_iff, decide_eq_false_iff_not, Bool.and_eq_false_iff, beq_eq_false_iff_ne] at h1 h2
    have e : x = y := by omega
    subst e
    rw [ltCps_tri r t (h1.2.resolve_left fun z => z rfl) (h2.2.resolve_left fun z => z rfl)]
theorem ltCps_trans : ∀ a b d : List Nat, ltCps a b = true → ltCps b d = true → ltCps a d = true
  | [], [], _, h, _ => by cases h
  | [], _ :: _, [], _, h => by cases h
  | [], _ :: _, _ :: _, _, _ => rfl
  | _ :: _, [], _, h, _ => by cases h
  | _ :: _, _ :: _, [], _, h => by cases h
  | x :: r, y :: t, z :: u, h1, h2 => by
    simp only [ltCps, Bool.or_eq_true, decide_eq_true_eq, Bool.and_eq_true, beq_iff_eq] at h1 h2 ⊢
    rcases h1 with h1 | ⟨rfl, h1⟩
    · rcases h2 with h2 | ⟨rfl, h2⟩
      · exact .inl (by omega)
      · exact .inl h1
    · rcases h2 with h2 | ⟨rfl, h2⟩
      · exact .inl h2
      · exact .inr ⟨rfl, ltCps_trans r t u h1 h2⟩
def ltS (a b : Str) : Prop := ltCps a.cps.toList b.cps.toList = true
def leS (a b : Str) : Prop := ltCps b.cps.toList a.cps.toList = false
theorem leS_anti {a b : Str} (h1 : leS a b) (h2 : leS b a) : a = b := by
  have := ltCps_tri _ _ h2 h1
  cases a; cases b
  simpa using this
theorem leS_trans {a b d : Str} (h1 : leS a b) (h2 : leS b d) : leS a d := by
  unfold leS at *
  cases e : ltCps d.cps.toList a.cps.toList with
  | false => rfl
  | true =>
    cases e2 : ltCps a.cps.toList b.cps.toList with
    | true => rw [ltCps_trans _ _ _ e e2] at h2; cases h2
    | false =>
      have := ltCps_tri _ _ e2 h1
      rw [this] at e
      rw [e] at h2; cases h2
theorem ltS_le {a b : Str} (h : ltS a b) : leS a b := by
  unfold leS
  cases e : ltCps b.cps.toList a.cps.toList with
  | false => rfl
  | true =>
    have := ltCps_trans _ _ _ h e
    rw [ltCps_irr] at this; cases this
theorem rising_pw : ∀ (p : Str) (l : List Str), risingS p l = true → (p :: l).Pairwise leS
  | p, [], _ => by simp
  | p, x :: r, h => by
    have h' : ltCps x.cps.toList p.cps.toList = false ∧ risingS x r = true := by simpa [risingS] using h
    have ih := rising_pw x r h'.2
    refine List.pairwise_cons.mpr ⟨fun y hy => ?_, ih⟩
    rcases List.mem_cons.mp hy with rfl | hy
    · exact h'.1
    · exact leS_trans h'.1 ((List.pairwise_cons.mp ih).1 y hy)
theorem sortedS_pw : ∀ (l : List Str), sortedS l = true → l.Pairwise leS
  | [], _ => .nil
  | x :: r, h => rising_pw x r h
theorem pwS_uniq : ∀ (a b : List Str), a.Pairwise leS → b.Pairwise leS → a.Perm b → a = b
  | [], b, _, _, h => by simpa using h
  | x :: a, [], _, _, h => by simp at h
  | x :: a, y :: b, ha, hb, h => by
    obtain ⟨a1, a2⟩ := List.pairwise_cons.mp ha
    obtain ⟨b1, b2⟩ := List.pairwise_cons.mp hb
    have e : x = y := by
      rcases List.mem_cons.mp (h.mem_iff.mp List.mem_cons_self) with q | q
      · exact q
      · rcases List.mem_cons.mp (h.mem_iff.mpr (List.mem_cons_self (a := y) (l := b))) with r | r
        · exact r.symm
        · exact leS_anti (a1 y r) (b1 x q)
    subst e
    rw [pwS_uniq a b a2 b2 ((List.perm_cons x).mp h)]
/-- put in its place -/
def insS (k : Str) : List Str → List Str
  | [] => [k]
  | x :: r => if ltCps x.cps.toList k.cps.toList then x :: insS k r else k :: x :: r
def srtS (l : List Str) : List Str := l.foldr insS []
theorem insS_perm (k : Str) : ∀ l : List Str, (insS k l).Perm (k :: l)
  | [] => .refl _
  | x :: r => by
    unfold insS
    split
    · exact ((insS_perm k r).cons x).trans (.swap k x r)
    · exact .refl _
theorem srtS_perm : ∀ l : List Str, (srtS l).Perm l
  | [] => .nil
  | x :: r => (insS_perm x (srtS r)).trans ((srtS_perm r).cons x)
theorem insS_pw (k : Str) : ∀ l : List Str, l.Pairwise leS → (insS k l).Pairwise leS
  | [], _ => by simp [insS]
  | x :: r, h => by
    obtain ⟨h1, h2⟩ := List.pairwise_cons.mp h
    unfold insS
    split
    · rename_i q
      refine List.pairwise_cons.mpr ⟨fun y hy => ?_, insS_pw k r h2⟩
      rcases List.mem_cons.mp ((insS_perm k r).mem_iff.mp hy) with rfl | hy
      · exact ltS_le q
      · exact h1 y hy
    · rename_i q
      refine List.pairwise_cons.mpr ⟨fun y hy => ?_, h⟩
      have q' : leS k x := by simpa [leS] using q
      rcases List.mem_cons.mp hy with rfl | hy
      · exact q'
      · exact leS_trans q' (h1 y hy)
theorem srtS_pw : ∀ l : List Str, (srtS l).Pairwise leS
  | [] => .nil
  | x :: r => insS_pw x _ (srtS_pw r)
theorem srtS_of {a l : List Str} (h : a.Pairwise leS) (p : a.Perm l) : srtS l = a := pwS_uniq _ _ (srtS_pw l) h ((srtS_perm l).trans p.symm)
/-- sorted(d) -/
def lSrtD (f : Rho → Option W) : Rho → Option (List PyData) := fun r => match f r with
  | some (.m kvs) => if kvs.length < 64 then some ((srtS (kvs.map (·.1))).map .str) else none
  | _ => none
theorem dpa_strs {K : PySem.W.Frag} {H : Hp} : ∀ ss : List Str, DpAll K H (ss.map V.str) (ss.map PyData.str)
  | [] => .nil
  | n :: r => .cons (.str n) (dpa_strs r)
theorem ok_srtD {c : C0} {e : Expr} {f : Rho → Option W} {p pos : Pos} (hb : ("sorted" : Str) ∈ c.T.bl) (hk : c.sc.names.lookup ("sorted" : Str) = some .globalImplicit) (ha : OkE c e f) (hs : ∀ env, starEach [e] env = [(false, eval e env)] := by intro _; rfl) :
    OkL c (.Call (.Name "sorted" p) [e] [] pos) (lSrtD f) := fun X gd r w h => by
  unfold lSrtD at h
  split at h
  · rename_i kvs e1
    split at h
    · rename_i hc
      cases h
      refine pe_imp (pe_callB (call_sortedD gd.calm) ((gd.kind _).trans hk) (gd.tab.bl _ hb) Nm.boot_sorted (pa_cons (ha X gd r _ e1) pa_nil (hs X.env)) (he := hs X.env)) fun s H Q q => ⟨q.1, fun v H1 s1 hv => ?_⟩
      obtain ⟨a, kws, rfl, h1, h2⟩ := hv
      refine ⟨a, kws, kvs.map (·.1), rfl, .inl h1, ?_, by simpa using hc, fun ys p0 g1 g2 hp0 => ?_⟩
      · rw [h2.1, List.map_map]; rfl
      have em : srtS (kvs.map (·.1)) = ys := srtS_of (sortedS_pw _ g2) g1
      rw [em] at q
      exact q.2 p0 _ _ (s1.free hp0) (s1.trans (same_new hp0 _)) upd_same (dpa_strs _)
    · cases h
  · cases h
end Nm
namespace Nm
open PySem L2
theorem ite_el {α : Type} {c : Prop} [Decidable c] {a b : Option α} {v : α} {P : Prop} (e : (if c then a else b) = some v) (h1 : c → a = some v → P) (h2 : b = some v → P) : P := by
  by_cases h : c
  · rw [if_pos h] at e; exact h1 h e
  · rw [if_neg h] at e; exact h2 e
/-! ### xs.index(x) -/
def idxD (d : PyData) : List PyData → Option Nat
  | [] => none
  | z :: r => if PyData.eqv z d = true then some 0 else match idxD d r with
    | some j => some (j + 1)
    | none => none
theorem idxD_some {d : PyData} : ∀ {ds : List PyData} {j : Nat}, idxD d ds = some j → ∃ z, ds[j]? = some z ∧ PyData.eqv z d = true ∧ ∀ (m : Nat) (y : PyData), m < j → ds[m]? = some y → PyData.eqv y d = false
  | [], _, h => by cases h
  | x :: r, j, h => by
    unfold idxD at h
    split at h
    · rename_i e
      cases h
      exact ⟨x, rfl, e, fun m y hm => absurd hm (Nat.not_lt_zero _)⟩
    · rename_i e
      split at h
      · rename_i i ei
        cases h
        obtain ⟨z, h1, h2, h3⟩ := idxD_some ei
        refine ⟨z, by simpa using h1, h2, fun m y hm hy => ?_⟩
        cases m with
        | zero =>
          have : x = y := by simpa using hy
          subst this
          exact Bool.eq_false_iff.mpr e
        | succ m => exact h3 m y (by omega) (by simpa using hy)
      · cases h
def wIdx : W → W → Option W
  | .d (.list ds), .d d => if (SeqAt.shaped (.list ds) && SeqAt.shaped d) = true then match idxD d ds with
      | some j => some (.d (.int (j : Nat)))
      | none => none
    else none
  | _, _ => none
theorem ok_idx {c : C0} {o e : Expr} {fa fb : Rho → Option W} {apos cpos : Pos} (ho : OkE c o fa) (he : OkE c e fb)
    (hb : ∀ env, attributeBase o "index" env (eval o env) = eval o env := by intro _; rfl) (hl : (apos.endLine == cpos.line) = true := by rfl)
    (hf : ∀ env, ((backTo cpos (starEach [e] env)).all (fun x => !x.1) && (backToKw cpos (keywordEach [] env)).all (fun x => x.1.isSome)
      && decide ([e].length + ([] : List Keyword).length + (if ([] : List Keyword).isEmpty then 0 else 1) < 30)) = true := by intro _; rfl)
    (hs : ∀ env, starEach [e] env = [(false, eval e env)] := by intro _; rfl) : OkE c (.Call (.Attribute o "index" apos) [e] [] cpos) (cOp2 wIdx fa fb) := fun X gd r w h => by
  obtain ⟨x, y, e1, e2, e3⟩ := cOp2_some h
  have hu : X.A.units + 65 < cLine := by have := room200 gd.room; omega
  refine pe_imp (pe_bm PySem.F.plainAttrs_list PySem.F.slot_list_index PySem.F.type_list_index (mt_indexD hu) (ho X gd r _ e1) (pa_cons (he X gd r _ e2) pa_nil (hs X.env)) (hb X.env) (hf X.env) hl (hs X.env)) fun s H Q q => ⟨q.1, fun v H1 s1 hv => ?_⟩
  unfold wIdx at e3
  split at e3
  · rename_i ds d
    split at e3
    · rename_i hc
      have hc := Bool.and_eq_true_iff.mp hc
      split at e3
      · rename_i j ej
        cases e3
        have hv0 := hv
        cases hv with
        | lst hq ha =>
          refine ⟨.inl ⟨rfl, _, hq⟩, rv_mono s1 q.1, fun u H2 s2 hu2 => ?_⟩
          obtain ⟨z, z1, z2, z3⟩ := idxD_some ej
          exact ⟨_, u, d, ds, j, z, rfl, rfl, Dp.l2 _ _ (lay_ndt _ (SeqAt.canLay_of_shaped hc.1)) (dp_mono s2 _ _ hv0), Dp.l2 _ _ (lay_ndt _ (SeqAt.canLay_of_shaped hc.2)) hu2, hc.1, hc.2, z1, z2, z3, q.2 _ H2 (s1.trans s2) (Dp.int _)⟩
      · cases e3
    · cases e3
  · cases e3
/-! ### a def that puts things behind the list that it is handed -/
theorem ext_tsame {a : Addr} {us : List V} {H H' : Hp} (h : Ext a H H') (ha : H a = some (.lst us)) : TSame H H' := fun b xs q => by
  have hb : b ≠ a := fun z => by
    rcases q with q | ⟨o, q⟩
    · rw [z, ha] at q; cases q
    · rw [z, ha] at q; cases q
  rcases q with q | ⟨o, q⟩
  · exact .inl (h.to b _ hb q (by intro _ z; cases z))
  · exact .inr ⟨o, h.to b _ hb q (by intro _ z; cases z)⟩
/-- what is put behind -/
def addP (k : Nat) (d : PyData) (xs : List PyData) : Option Res :=
  if (imm d && imms xs && decide (xs.length < 100000)) = true then match wInS k true (.d d) (.d (.list xs)) with
    | some (.d (.bool true)) => match wIdx (.d (.list (xs ++ [d]))) (.d d) with
      | some (.d (.int (.ofNat j))) => some (.pc (xs ++ [d]) j)
      | _ => none
    | some (.d (.bool false)) => match wIdx (.d (.list xs)) (.d d) with
      | some (.d (.int (.ofNat j))) => some (.pc xs j)
      | _ => none
    | _ => none
  else none
def pcM (F : Fs) (i k : Nat) : List W → Option Res
  | [.d (.tuple [a, b]), .d (.list xs)] => if (imm a && imm b && imms xs) = true then match F i [.d a, .d (.list xs)] with
      | some (.pc xs1 n1) => if imms xs1 = true then match F i [.d b, .d (.list xs1)] with
          | some (.pc xs2 n2) => addP k (.tuple [.int n1, .int n2]) xs2
          | _ => none
        else none
      | _ => none
    else none
  | [.d (.str s), .d (.list xs)] => addP k (.str s) xs
  | _ => none
section
variable {T : Tab} {P : Program} {w : World} {K : PySem.W.Frag} {mg : Str → Option Value} {base : Heap} {F : Fs} {k i : Nat} {x qual : Str} {st : Stmt} {f : Addr} {fd : FuncData} {args : List W} {r : Res}
variable {e1 e2 e3 e4 e5 e6 : Expr} {p1 p2 p3 p4 p5 p6 p7 p8 p9 q1' q1 q2 q3 q4 q5 q6 q7 q8 q9 u1 u2 u3 : Pos} {kt : Nat}
abbrev pcN : List Str := ["row", "found", "left", "piece"]
abbrev pcC (T : Tab) (F : Fs) (k : Nat) (st : Stmt) (qual : Str) : C0 := ⟨T, pcN, F, k, defScope st, true, false, qual⟩
theorem rv4 {T : Tab} {K : PySem.W.Frag} {mg : Str → Option Value} {H : Hp} {a b c d : Option V} {A B C D : Option Sl} (h0 : ∀ x, rd [A, B, C, D] 0 = some x → ∃ v, a = some v ∧ Rw T K mg H v x) (h1 : ∀ x, rd [A, B, C, D] 1 = some x → ∃ v, b = some v ∧ Rw T K mg H v x)
    (h2 : ∀ x, rd [A, B, C, D] 2 = some x → ∃ v, c = some v ∧ Rw T K mg H v x) (h3 : ∀ x, rd [A, B, C, D] 3 = some x → ∃ v, d = some v ∧ Rw T K mg H v x) (tb : TbOk T K mg H) : RV T K mg H [a, b, c, d] [A, B, C, D] := ⟨rfl, (fun i x q => by
  match i with
  | 0 => obtain ⟨v, g1, g2⟩ := h0 x q; exact ⟨v, by rw [g1]; rfl, g2⟩
  | 1 => obtain ⟨v, g1, g2⟩ := h1 x q; exact ⟨v, by rw [g1]; rfl, g2⟩
  | 2 => obtain ⟨v, g1, g2⟩ := h2 x q; exact ⟨v, by rw [g1]; rfl, g2⟩
  | 3 => obtain ⟨v, g1, g2⟩ := h3 x q; exact ⟨v, by rw [g1]; rfl, g2⟩
  | n + 4 => unfold rd at q; cases q), tb⟩
/-- the state: the row, the list, what else -/
theorem rvP {H : Hp} {v : V} {a : Addr} {us : List V} {d : PyData} {xs : List PyData} {y z : Option V} (hd : Dp K H v d) (ha : H a = some (.lst us)) (hu : DpAll K H us xs) (tb : TbOk T K mg H) : RV T K mg H [some v, some (.ref a), y, z] [some (.w (.d d)), some (.w (.d (.list xs))), none, none] := by
  refine rv4 (fun x q => ?_) (fun x q => ?_) (fun x q => ?_) (fun x q => ?_) tb
  · cases q; exact ⟨v, rfl, hd⟩
  · cases q; exact ⟨_, rfl, Dp.lst (SqL.of ha) hu⟩
  · cases q
  · cases q
theorem rvQ {H : Hp} {v u : V} {a : Addr} {us : List V} {d : PyData} {xs : List PyData} {y z : Option V} (hd : Dp K H u d) (ha : H a = some (.lst us)) (hu : DpAll K H us xs) (tb : TbOk T K mg H) : RV T K mg H [z, some (.ref a), y, some u] [none, some (.w (.d (.list xs))), none, some (.w (.d d))] := by
  refine rv4 (fun x q => ?_) (fun x q => ?_) (fun x q => ?_) (fun x q => ?_) tb
  · cases q
  · cases q; exact ⟨_, rfl, Dp.lst (SqL.of ha) hu⟩
  · cases q
  · cases q; exact ⟨u, rfl, hd⟩
theorem ext_same {a : Addr} {H H1 : Hp} (h : Same H H1) : Ext a H H1 := ⟨fun b o _ q n => h.to b o q n, fun b _ q => h.no b q, h.tb⟩
theorem Ext.trans {a : Addr} {H H1 H2 : Hp} (h : Ext a H H1) (g : Ext a H1 H2) : Ext a H H2 := ⟨fun b o n q m => g.to b o n (h.to b o n q m) m, fun b n q => h.no b n (g.no b n q), fun P z => g.tb P (h.tb P z)⟩
theorem ext_upd {a : Addr} {H : Hp} {o u : HO} (ha : H a = some u) (m : MutO u) : Ext a H (upd H a o) := ⟨fun b o n q _ => by rw [upd_ne n]; exact q, fun b n q => by rw [upd_ne n] at q; exact q, fun P z => tab_upd ha m P z⟩
/-- behind the first statement -/
theorem pcs_end {X : Cx} (gd : Gd (pcC T F k st qual) X) (hv1 : Vis (defScope st) "found") (hv3 : Vis (defScope st) "piece")
    (h5 : OkT (pcC T F k st qual) e5 (cT (cOp2 (wInS k true) (cVar 3) (cVar 1)))) (h6 : OkE (pcC T F k st qual) e6 (cOp2 wIdx (cVar 1) (cVar 3)))
    (hfew : ∀ env, ((backTo q2 (starEach [.Name "piece" q3] env)).all (fun x => !x.1) && (backToKw q2 (keywordEach [] env)).all (fun x => x.1.isSome) && decide ([Expr.Name "piece" q3].length + ([] : List Keyword).length + (if ([] : List Keyword).isEmpty then 0 else 1) < 30)) = true) (hline : (q1.endLine == q2.line) = true) {d : PyData} {xs ys : List PyData} {n : Nat} (e : addP k d xs = some (.pc ys n)) :
    PSs X [.If e5 [.Expr (.Call (.Attribute (.Name "found" q4) "append" q1) [.Name "piece" q3] [] q2) q5] [] q6, .Return (some e6) q7]
      (fun D s H => ∃ z u y a us, s = [z, some (.ref a), y, some u] ∧ Dp X.K H u d ∧ H a = some (.lst us) ∧ DpAll X.K H us xs ∧ TbOk T X.K X.mg H ∧ ∀ H' us', Ext a H H' → H' a = some (.lst us') → DpAll X.K H' us' ys → D.rt (.int n) H') := by
  unfold addP at e
  split at e
  · rename_i hc
    have hc' : (imm d = true ∧ imms xs = true) ∧ xs.length < 100000 := by simpa using hc
    split at e
    · rename_i e1
      split at e
      · rename_i j e2
        cases e
        have t1 := h5 X gd [none, some (.w (.d (.list xs))), none, some (.w (.d d))] true (by
          show wB (wInS k true (.d d) (.d (.list xs))) = some true
          rw [e1]; rfl)
        have t2 := h6 X gd [none, some (.w (.d (.list (xs ++ [d])))), none, some (.w (.d d))] _ e2
        refine pss_imp (pss_cons (ps_if t1 (pss_one (ps_expr (pe_bm PySem.F.plainAttrs_list PySem.F.slot_list_append PySem.F.type_list_append mt_append (pe_var (i := 1) (by rw [gd.hN]; rfl) (by rw [gd.hsc]; exact hv1)) (pa_cons (pe_var (i := 3) (by rw [gd.hN]; rfl) (by rw [gd.hsc]; exact hv3)) pa_nil rfl) rfl (hfew X.env) hline rfl rfl) rfl)) pss_never) (pss_one (ps_ret t2))) fun D s H q => ?_
        obtain ⟨z, u, y, a, us, rfl, g1, g2, g3, tb, q⟩ := q
        refine ⟨rvQ (v := u) g1 g2 g3 tb, fun H1 s1 => iteT ?_⟩
        have g2' := s1.at g2
        refine ⟨_, rfl, .inl ⟨rfl, _, SqL.of g2'⟩, _, rfl, a, us, u, rfl, rfl, g2', by rw [dpa_len _ _ g3]; exact Nat.lt_of_lt_of_le hc'.2 (by decide), ?_⟩
        have ts := ext_tsame (ext_upd (o := .lst (us ++ [u])) g2' trivial) g2'
        have g4 : DpAll X.K (upd H1 a (.lst (us ++ [u]))) (us ++ [u]) (xs ++ [d]) := dpa_app _ _ _ _ (dpa_tmono ts _ _ hc'.1.2 (dpa_mono s1 _ _ g3)) (.cons (dp_tmono ts _ _ hc'.1.1 (dp_mono s1 _ _ g1)) .nil)
        have tb1 : TbOk T X.K X.mg (upd H1 a (.lst (us ++ [u]))) := tb_ext (ext_upd g2' trivial) (tb_mono s1 tb)
        refine ⟨rvQ (v := u) (dp_tmono ts _ _ hc'.1.1 (dp_mono s1 _ _ g1)) upd_same g4 tb1, fun v H2 s2 hv => ?_⟩
        obtain rfl := int_of hv
        exact q H2 (us ++ [u]) ((ext_same s1).trans ((ext_upd g2' trivial).trans (ext_same s2))) (s2.at upd_same) (dpa_mono s2 _ _ g4)
      · cases e
    · rename_i e1
      split at e
      · rename_i j e2
        cases e
        have t1 := h5 X gd [none, some (.w (.d (.list xs))), none, some (.w (.d d))] false (by
          show wB (wInS k true (.d d) (.d (.list xs))) = some false
          rw [e1]; rfl)
        have t2 := h6 X gd [none, some (.w (.d (.list xs))), none, some (.w (.d d))] _ e2
        refine pss_imp (pss_cons (ps_if t1 pss_never pss_nil) (pss_one (ps_ret t2))) fun D s H q => ?_
        obtain ⟨z, u, y, a, us, rfl, g1, g2, g3, tb, q⟩ := q
        refine ⟨rvQ (v := u) g1 g2 g3 tb, fun H1 s1 => iteF ?_⟩
        refine ⟨rvQ (v := u) (dp_mono s1 _ _ g1) (s1.at g2) (dpa_mono s1 _ _ g3) (tb_mono s1 tb), fun v H2 s2 hv => ?_⟩
        obtain rfl := int_of hv
        exact q H2 us ((ext_same s1).trans (ext_same s2)) (s2.at (s1.at g2)) (dpa_mono s2 _ _ (dpa_mono s1 _ _ g3))
      · cases e
    · cases e
  · cases e
theorem addP_pc {k : Nat} {d : PyData} {xs : List PyData} {r : Res} (h : addP k d xs = some r) : ∃ ys n, r = .pc ys n := by
  unfold addP at h
  split at h
  · split at h
    · split at h
      · cases h; exact ⟨_, _, rfl⟩
      · cases h
    · split at h
      · cases h; exact ⟨_, _, rfl⟩
      · cases h
    · cases h
  · cases h
theorem pcs_ok (FN : Fun K x qual st f fd) (S : FnScope pcN ["row", "found"] (defScope st)) (tab : TabOk T K mg w) (cal : ∀ i args r, F i args = some r → Calb T P w K mg base k i args r) (clo : CloAll T P w K mg base)
    (hb : defBody st = [.If e1 [.Assign [.Name "left" p1] (.Call (.Name x p2) [e2, .Name "found" p3] [] p4) p5, .Assign [.Name "piece" p6] (.Tuple [.Name "left" p7, .Call (.Name x p8) [e3, .Name "found" p9] [] u1] kt u2) u3] [.Assign [.Name "piece" q8] e4 q9] q1',
      .If e5 [.Expr (.Call (.Attribute (.Name "found" q4) "append" q1) [.Name "piece" q3] [] q2) q5] [] q6, .Return (some e6) q7])
    (hx : T.fn i = x) (hps : T.ps i = (["row", "found"] : List Str)) (hm : T.mo i = none) (hlm : T.lm i = none) (hlw : LwOk T K mg qual f) (hk : (defScope st).names.lookup x = some .globalImplicit) (hd : (x == ("__debug__" : Str)) = false)
    (hv1 : Vis (defScope st) "found") (hv2 : Vis (defScope st) "left") (hv3 : Vis (defScope st) "piece") (hl2 : Loc (defScope st) "left") (hl3 : Loc (defScope st) "piece")
    (h1 : OkT (pcC T F k st qual) e1 (cT (cOp1 (wIsi isTup) (cVar 0)))) (h2 : OkE (pcC T F k st qual) e2 (cOp2 wIx (cVar 0) (cI 0))) (h3 : OkE (pcC T F k st qual) e3 (cOp2 wIx (cVar 0) (cI 1))) (h4 : OkE (pcC T F k st qual) e4 (cVar 0))
    (h5 : OkT (pcC T F k st qual) e5 (cT (cOp2 (wInS k true) (cVar 3) (cVar 1)))) (h6 : OkE (pcC T F k st qual) e6 (cOp2 wIdx (cVar 1) (cVar 3)))
    (hs2 : ∀ env, starEach [e2, .Name "found" p3] env = (false, eval e2 env) :: starEach [.Name "found" p3] env) (hs3 : ∀ env, starEach [e3, .Name "found" p9] env = (false, eval e3 env) :: starEach [.Name "found" p9] env)
    (hsw1 : ∀ env l, swapsWith (.Call (.Name x p2) [e2, .Name "found" p3] [] p4) (some (.Name "left" p1)) l env = pure false) (hsw2 : ∀ env l, swapsWith (.Tuple [.Name "left" p7, .Call (.Name x p8) [e3, .Name "found" p9] [] u1] kt u2) (some (.Name "piece" p6)) l env = pure false) (hsw3 : ∀ env l, swapsWith e4 (some (.Name "piece" q8)) l env = pure false)
    (hfew : ∀ env, ((backTo q2 (starEach [.Name "piece" q3] env)).all (fun x => !x.1) && (backToKw q2 (keywordEach [] env)).all (fun x => x.1.isSome) && decide ([Expr.Name "piece" q3].length + ([] : List Keyword).length + (if ([] : List Keyword).isEmpty then 0 else 1) < 30)) = true) (hline : (q1.endLine == q2.line) = true)
    (e : pcM F i k args = some r) : FnOk P w K mg base (cxr P w r) (k + 1) f fd ["row", "found"] (spR T K mg args r) := by
  have hcall : ∀ d xs ys n, F i [.d d, .d (.list xs)] = some (.pc ys n) → ∃ f fd, Binds K fd ["row", "found"] [] ∧ FnOk P w K mg base CX0 k f fd ["row", "found"] (spR T K mg [.d d, .d (.list xs)] (.pc ys n)) ∧ mg x = some (.ref f) ∧ PySem.W.keepIn K (.ref f) = true := fun d xs ys n q => by
    obtain ⟨f, fd, h3, h4, h5, _⟩ := (cal i _ _ q).ex hlm
    obtain ⟨g1, g2⟩ := h5 hm
    rw [hx] at g1
    rw [hps] at h3 h4
    exact ⟨f, fd, h3, h4, g1, g2⟩
  unfold pcM at e
  split at e
  · rename_i a b xs
    split at e
    · rename_i hc
      have hc' : (imm a = true ∧ imm b = true) ∧ imms xs = true := by simpa using hc
      split at e
      · rename_i xs1 n1 c1
        split at e
        · rename_i hi1
          split at e
          · rename_i xs2 n2 c2
            obtain ⟨ys, n, rfl⟩ := addP_pc e
            refine fun_okC FN S (fun vs H Q E q => by rw [rwa_len q.1]; rfl) (fun cdv A outer s H vs Q E hcd hr q => ?_)
            have gd : Gd (pcC T F k st qual) (cxOf CX0 P w K mg base pcN qual (defScope st) f cdv A outer s H E).nox := ⟨rfl, rfl, rfl, hr, S.nd, tab, cal, clo, fun _ _ => rfl, S.kind, fun z => (by cases z), fun _ => ⟨rfl, rfl, rfl⟩, fun _ => lw_of FN hlw hcd⟩
            obtain ⟨q1, tb, v, l, us, d, xs', ea, rfl, ha, g0, gl, q⟩ := q
            cases ea
            obtain ⟨f1, fd1, b1, F1, m1, k1⟩ := hcall _ _ _ _ c1
            obtain ⟨f2, fd2, b2, F2, m2, k2⟩ := hcall _ _ _ _ c2
            rw [hb]
            have t1 := h1 _ gd [some (.w (.d (.tuple [a, b]))), some (.w (.d (.list xs))), none, none] true rfl
            have t2 := h2 _ gd [some (.w (.d (.tuple [a, b]))), some (.w (.d (.list xs))), none, none] (.d a) rfl
            have t3 := h3 _ gd [some (.w (.d (.tuple [a, b]))), some (.w (.d (.list xs1))), none, none] (.d b) rfl
            have s1 := ps_set (i := 2) (pos := p5) (pos' := p1) (by rw [gd.hN]; exact S.nd) (by rw [gd.hN]; rfl) (by rw [gd.hsc]; exact hl2) (pe_call (p := p2) (pos := p4) F1 gd.room ((gd.kind x).trans hk) m1 k1 b1 .nil pass0 (pa_cons t2 (pa_cons (pe_var (i := 1) (pos := p3) (by rw [gd.hN]; rfl) (by rw [gd.hsc]; exact hv1)) pa_nil rfl) (hs2 _)) hd (hs2 _) rfl) (hsw1 _ _) (.inl rfl)
            have s2 := ps_set (i := 3) (pos := u3) (pos' := p6) (by rw [gd.hN]; exact S.nd) (by rw [gd.hN]; rfl) (by rw [gd.hsc]; exact hl3) (pe_tup (x1 := kt) (pos := u2) (pa_cons (pe_var (i := 2) (pos := p7) (by rw [gd.hN]; rfl) (by rw [gd.hsc]; exact hv2)) (pa_cons (pe_call (p := p8) (pos := u1) F2 gd.room ((gd.kind x).trans hk) m2 k2 b2 .nil pass0 (pa_cons t3 (pa_cons (pe_var (i := 1) (pos := p9) (by rw [gd.hN]; rfl) (by rw [gd.hsc]; exact hv1)) pa_nil rfl) (hs3 _)) hd (hs3 _) rfl) pa_nil rfl) rfl)) (hsw2 _ _) (.inl rfl)
            refine ⟨_, L2.PSs.nox (pss_cons (ps_if t1 (pss_cons s1 (pss_one s2)) pss_never) (pcs_end gd hv1 hv3 h5 h6 hfew hline e)), ?_⟩
            refine ⟨rvP g0 ha gl tb, fun H1 d1 => iteT ⟨rvP (dp_mono d1 _ _ g0) (d1.at ha) (dpa_mono d1 _ _ gl) (tb_mono d1 tb), fun v1 H2 d2 hv1 => ⟨.ref l, rfl, ?_⟩⟩⟩
            have gl2 := dpa_mono (d1.trans d2) _ _ gl
            have ha2 := (d1.trans d2).at ha
            have tb2 := tb_mono (d1.trans d2) tb
            have g02 := dp_mono (d1.trans d2) _ _ g0
            refine ⟨.cons hv1 (.cons (Dp.lst (SqL.of ha2) gl2) .nil), tb2, v1, l, us, a, xs, rfl, rfl, ha2, hv1, gl2, fun H3 us3 d3 ha3 gl3 => ?_⟩
            have g03 := dp_tmono (ext_tsame d3 ha2) (.tuple [a, b]) _ (by simp only [imm, imms, hc'.1.1, hc'.1.2]; rfl) g02
            have tb3 := tb_ext d3 tb2
            refine ⟨_, rfl, rvP g03 ha3 gl3 tb3, fun v2 H4 d4 hv2 => ⟨.ref l, rfl, ?_⟩⟩
            have gl4 := dpa_mono d4 _ _ gl3
            have ha4 := d4.at ha3
            have tb4 := tb_mono d4 tb3
            refine ⟨.cons hv2 (.cons (Dp.lst (SqL.of ha4) gl4) .nil), tb4, v2, l, us3, b, xs1, rfl, rfl, ha4, hv2, gl4, fun H5 us5 d5 ha5 gl5 => ⟨by show 2 ≤ sizeLine; decide, fun p hp => ?_⟩⟩
            have sn := same_new hp (.tup [.int n1, .int n2])
            refine ⟨_, _, _, l, us5, rfl, Dp.tup (SqT.of upd_same) (.cons (Dp.int _) (.cons (Dp.int _) .nil)), sn.at ha5, dpa_mono sn _ _ gl5, tb_mono sn (tb_ext d5 tb4), fun H' us' d' ha' gl' => ?_⟩
            exact q H' us' ((ext_same (d1.trans d2)).trans (d3.trans ((ext_same d4).trans (d5.trans ((ext_same sn).trans d'))))) ha' gl'
          · cases e
        · cases e
      · cases e
    · cases e
  · rename_i s xs
    obtain ⟨ys, n, rfl⟩ := addP_pc e
    refine fun_okC FN S (fun vs H Q E q => by rw [rwa_len q.1]; rfl) (fun cdv A outer sh H vs Q E hcd hr q => ?_)
    have gd : Gd (pcC T F k st qual) (cxOf CX0 P w K mg base pcN qual (defScope st) f cdv A outer sh H E).nox := ⟨rfl, rfl, rfl, hr, S.nd, tab, cal, clo, fun _ _ => rfl, S.kind, fun z => (by cases z), fun _ => ⟨rfl, rfl, rfl⟩, fun _ => lw_of FN hlw hcd⟩
    obtain ⟨q1, tb, v, l, us, d, xs', ea, rfl, ha, g0, gl, q⟩ := q
    cases ea
    rw [hb]
    have t1 := h1 _ gd [some (.w (.d (.str s))), some (.w (.d (.list xs))), none, none] false rfl
    have t4 := h4 _ gd [some (.w (.d (.str s))), some (.w (.d (.list xs))), none, none] (.d (.str s)) rfl
    have s1 := ps_set (i := 3) (pos := q9) (pos' := q8) (by rw [gd.hN]; exact S.nd) (by rw [gd.hN]; rfl) (by rw [gd.hsc]; exact hl3) t4 (hsw3 _ _) (.inl rfl)
    refine ⟨_, L2.PSs.nox (pss_cons (ps_if t1 pss_never (pss_one s1)) (pcs_end gd hv1 hv3 h5 h6 hfew hline e)), ?_⟩
    refine ⟨rvP g0 ha gl tb, fun H1 d1 => iteF ⟨rvP (dp_mono d1 _ _ g0) (d1.at ha) (dpa_mono d1 _ _ gl) (tb_mono d1 tb), fun v1 H2 d2 hv1 => ?_⟩⟩
    refine ⟨_, _, _, l, us, rfl, hv1, (d1.trans d2).at ha, dpa_mono (d1.trans d2) _ _ gl, tb_mono (d1.trans d2) tb, fun H' us' d' ha' gl' => ?_⟩
    exact q H' us' ((ext_same (d1.trans d2)).trans d') ha' gl'
  · cases e
end
theorem cal_any {T : Tab} {P : Program} {w : World} {K : PySem.W.Frag} {mg : Str → Option Value} {base h : Heap} {k : Nat} {x qual : Str} {st : Stmt} {ps : List Str} {args : List W} {r : Res} {i : Nat} (X : K.In h) (G : h.Ns mainGlobals mg) (D : DefAt K x qual st ps)
    (o : ∀ f fd, Fun K x qual st f fd → mg x = some (.ref f) → FnOk P w K mg base (cxr P w r) (k + 1) f fd ps (spR T K mg args r)) (hp : T.ps i = ps) (hx : T.fn i = x) (hm : T.mo i = none) (hlm : T.lm i = none := by rfl) : Calb T P w K mg base (k + 1) i args r := by
  obtain ⟨f, fd, a, FN, b⟩ := D
  refine ⟨fun _ => ⟨f, fd, by rw [hp]; exact .all b, by rw [hp]; exact o f fd FN (PySem.W.mg_of X G a), fun _ => ⟨by rw [hx]; exact PySem.W.mg_of X G a, FN.kp⟩, fun cid m q => ?_⟩, fun L q => absurd (hlm.symm.trans q) nofun⟩
  rw [hm] at q
  cases q
/-- an own list, changed elsewhere -/
theorem RSO.ext {T : Tab} {K : PySem.W.Frag} {mg : Str → Option Value} {gh : Hp → Prop} {He H H' : Hp} {s : L2.St} {r : Rho} {O : Addr → Prop} (h : RSO T K mg gh He O H s r) {j : Nat} {xs ys : List PyData} {a : Addr} {us us' : List V} (hj : r[j]? = some (some (.own xs))) (hs : s[j]? = some (some (.ref a))) (hO : O a)
    (ha : H a = some (.lst us)) (hx : Ext a H H') (ha' : H' a = some (.lst us')) (hd : DpAll K H' us' ys) (hi : imms ys = true) : RSO T K mg gh He O H' s (r.set j (some (.own ys))) := by
  have sm : Same H (upd H' a (.lst us)) := ⟨fun b o q n => by
    by_cases z : b = a
    · subst z; rw [upd_same, ← ha]; exact q
    · rw [upd_ne z]; exact hx.to b o z q n, fun b q => by
    by_cases z : b = a
    · rw [z, upd_same] at q; cases q
    · rw [upd_ne z] at q; exact hx.no b z q, fun P z => tab_upd ha' trivial P (hx.tb P z)⟩
  have q3 := h.step sm
  have em : mask (upd H' a (.lst us)) O = mask H' O := funext fun b => by
    by_cases q : O b
    · rw [mask_in q, mask_in q]
    · rw [mask_out q, mask_out q, upd_ne (fun z => q (by rw [z]; exact hO))]
  have mt : ∀ b, O b → ∃ o, H' b = some o ∧ MutO o := fun b q => by
    by_cases z : b = a
    · rw [z]; exact ⟨_, ha', trivial⟩
    · obtain ⟨_, o, g1, g2⟩ := q3.ow b q
      rw [upd_ne z] at g1
      exact ⟨o, g1, g2⟩
  have q4 := q3.mut (ys := ys) (vs := us') hj hs hO (by rw [em]; exact dpa_tmono (mask_tsame mt) _ _ hi hd)
  have eu : upd (upd H' a (.lst us)) a (.lst us') = H' := by
    rw [upd_upd]
    funext b
    by_cases z : b = a
    · rw [z, upd_same, ha']
    · rw [upd_ne z]
  rw [eu] at q4
  exact q4
section
variable {c : C0} {pos : Pos} {e : Expr} {f : Rho → Option W} {x y : Str} {p py pos' : Pos} {i : Nat}
/-- f(e, xs), xs an own list -/
def sPcs (F : Fs) (i j : Nat) (f : Rho → Option W) : CS := fun r => match r[j]? with
  | some (some (.own xs)) => match f r with
    | some (.d d) => match F i [.d d, .d (.list xs)] with
      | some (.pc ys _) => if imms ys = true then some (.nx (r.set j (some (.own ys)))) else none
      | _ => none
    | _ => none
  | _ => none
theorem okS_pcs (i j : Nat) (hm : c.T.mo i = none) (hx : c.T.fn i = x) (hk : c.sc.names.lookup x = some .globalImplicit) (hN : c.N[j]? = some y) (hv : Vis c.sc y) (he : OkE c e f) (hd : (x == ("__debug__" : Str)) = false := by decide) (hd2 : (y == ("__debug__" : Str)) = false := by decide) (hcd2 : (y == ("__classdict__" : Str)) = false := by decide)
    (hst : ∀ env, starEach [e, .Name y py] env = (false, eval e env) :: starEach [.Name y py] env := by intro _; rfl) (hsw : ∀ env l, swapsWith (.Call (.Name x p) [e, .Name y py] [] pos) none l env = pure false := by intro _ _; rfl) (hlm : c.T.lm i = none := by rfl) :
    OkS c (.Expr (.Call (.Name x p) [e, .Name y py] [] pos) pos') (sPcs c.F i j f) := fun X gd hx' r o k => by
  unfold sPcs at k
  split at k
  · rename_i xs e1
    split at k
    · rename_i d e2
      split at k
      · rename_i ys n e3
        split at k
        · rename_i hi
          cases k
          obtain ⟨f, fd, h3, h4, h5, _⟩ := (gd.cal i _ _ e3).ex hlm
          obtain ⟨h1, h2⟩ := h5 hm
          rw [hx] at h1
          have h4 : FnOk X.prog X.w X.K X.mg X.base CX0 c.k f fd (c.T.ps i) (spR c.T X.K X.mg [.d d, .d (.list xs)] (.pc ys n)) := h4
          refine ps_imp (ps_expr (pe_call (p := p) (pos := pos) h4 gd.room ((gd.kind x).trans hk) h1 h2 h3 .nil pass0 (pa_cons (he X gd r _ e2) (pa_cons (pe_var (i := j) (pos := py) (by rw [gd.hN]; exact hN) (by rw [gd.hsc]; exact hv) hd2 hcd2) pa_nil rfl) (hst _)) hd (hst _) rfl) (hsw _ _)) fun D s H ⟨gh, He, ⟨O, q1⟩, q2⟩ => ?_
          refine ⟨q1.rv, fun v H1 s1 hv => ?_⟩
          have q3 := q1.step s1
          obtain ⟨a, us, g1, g2, g3, g4⟩ := q3.ov j xs e1
          have g4' := dpa_mono mask_sub _ _ g4
          refine ⟨_, g1, .cons hv (.cons (Dp.lst (SqL.of g3) g4') .nil), q3.rv.2.2, v, a, us, d, xs, rfl, rfl, g3, hv, g4', fun H' us' hx ha' hd' => q2 s H' ⟨O, ?_⟩⟩
          exact q3.ext e1 g1 g2 g3 hx ha' hd' hi
        · cases k
      · cases k
    · cases k
  · cases k
end
/-! ### enumerate(list), within an expression -/
def enL : Int → List PyData → List PyData
  | _, [] => []
  | n, d :: r => .tuple [.int n, d] :: enL (n + 1) r
theorem enL_len : ∀ (n : Int) (l : List PyData), (enL n l).length = l.length
  | _, [] => rfl
  | n, d :: r => by show (enL (n + 1) r).length + 1 = r.length + 1; rw [enL_len (n + 1) r]
theorem enL_get : ∀ (n : Int) (l : List PyData) (i : Nat), (enL n l)[i]? = (l[i]?).map fun d => .tuple [.int (n + i), d]
  | _, [], i => by simp [enL]
  | n, d :: r, 0 => by simp [enL]
  | n, d :: r, i + 1 => by
    show (enL (n + 1) r)[i]? = _
    rw [enL_get (n + 1) r i]
    have e : n + 1 + (i : Int) = n + ((i + 1 : Nat) : Int) := by omega
    rw [e]
    rfl
def vE (f : Rho → Option W) : Rho → Option (List PyData) := fun r => match f r with
  | some (.d (.list ds)) => some (enL 0 ds)
  | _ => none
theorem mask_new {H : Hp} {O : Addr → Prop} {T : Addr} {o : HO} (h : H T = none) : Same (mask H O) (mask (upd H T o) O) := .of fun b u q => by
  obtain ⟨q1, q2⟩ := mask_some q
  rw [mask_out q1, upd_ne (ne_of_none q2 h)]
  exact q2
theorem wk_enum {K : PySem.W.Frag} {a : Addr} {xs : List V} {ds : List PyData} (hl : xs.length = ds.length) : Wk K (Ite K a) (fun M => SqL K M a xs ∧ DpAll K M xs ds) (enL 0 ds) := by
  refine ⟨fun i H O g hi => ?_, fun i H O x H' d hO g hd hy => ?_, fun H O g => ?_⟩
  · rw [enL_len] at hi
    have hi' : i < xs.length := by omega
    exact ⟨xs, xs[i], mask_sub.seq g.1, List.getElem?_eq_getElem hi'⟩
  · obtain ⟨T, y, rfl, hT, rfl, hy⟩ := hy
    refine ⟨same_new hT _, ?_⟩
    have e3 := hy xs (mask_sub.seq g.1)
    obtain ⟨d', h3, h4⟩ := dpa_getV _ _ i y g.2 e3
    rw [enL_get, h3] at hd
    cases hd
    have nO : ¬ O T := fun z => hO T z hT
    refine Dp.tup (xs := [.int (i : Nat), y]) (SqT.of (by rw [mask_out nO]; exact upd_same)) (.cons ?_ (.cons (dp_mono (mask_new hT) _ _ h4) .nil))
    have e4 : (0 : Int) + (i : Int) = (i : Int) := by omega
    rw [e4]
    exact Dp.int _
  · refine ⟨xs, mask_sub.seq g.1, ?_⟩
    rw [enL_len]
    exact Nat.le_of_eq hl
theorem okV_enum {c : C0} {pos p tpos : Pos} {e : Expr} {f : Rho → Option W} {elts : List Expr} {kk : Nat} (hb : ("enumerate" : Str) ∈ c.T.bl) (hk : c.sc.names.lookup ("enumerate" : Str) = some .globalImplicit) (he : OkE c e f) (hs : ∀ env, starEach [e] env = [(false, eval e env)] := by intro _; rfl) :
    OkV c (.Tuple elts kk tpos) (.Call (.Name "enumerate" p) [e] [] pos) (vE f) := fun X gd r ds k => by
  unfold vE at k
  split at k
  · rename_i ds' e1
    cases k
    refine ⟨_, pi_enum ((gd.kind _).trans hk) (gd.tab.bl _ hb) (pa_cons (he X gd r _ e1) pa_nil (hs X.env)) (hs X.env), fun s H q1 R k => ⟨q1, fun v H1 s1 hv => ?_⟩⟩
    cases hv with
    | lst hs ha => exact ⟨_, _, rfl, hs, k _ H1 _ monoL s1 ⟨hs, ha⟩ (wk_enum (dpa_len _ _ ha))⟩
  · cases k
end Nm
namespace Nm
open PySem L2
/-! ### what raises -/
theorem Gd.wish {c : C0} {X : Cx} (g : Gd c X) (xe : Value → Shared → Prop) : Gd c (X.wish xe) := ⟨g.hN, g.hsc, g.calm, g.room, g.nd, g.tab, g.cal, g.clo, g.fn, g.fk, g.gs, g.sk, g.lw⟩
theorem Gd.tr {c : C0} {X : Cx} (g : Gd c X) (pn : List (Addr × Obj)) (xe : Value → Shared → Prop) : Gd c (X.tr pn xe) := ⟨g.hN, g.hsc, g.calm, g.room, g.nd, g.tab, g.cal, g.clo, g.fn, g.fk, g.gs, g.sk, g.lw⟩
/-- raised at the state r -/
def tX (T : Tab) (X : Cx) (W : WX) (r : Rho) (n : Nat) (s : L2.St) (H : Hp) : Prop := ∃ gh He, RS T X.K X.mg gh He H s r ∧ ∀ C H', X.mg (T.en n) = some (.ref C) → RS T X.K X.mg gh He H' s r → W (.ref C) none s H'
/-- raised at some state -/
def tXs (T : Tab) (X : Cx) (W : WX) (r : Rho) (n : Nat) (s : L2.St) (H : Hp) : Prop := ∃ gh He, RS T X.K X.mg gh He H s r ∧ ∀ C s' H' r', X.mg (T.en n) = some (.ref C) → RS T X.K X.mg gh He H' s' r' → W (.ref C) none s' H'
theorem tX_of {T : Tab} {X : Cx} {W : WX} {r : Rho} {n : Nat} {s : L2.St} {H : Hp} (h : tXs T X W r n s H) : tX T X W r n s H := let ⟨gh, He, h1, h2⟩ := h; ⟨gh, He, h1, fun C H' hC q => h2 C s H' r hC q⟩
def OkEX (c : C0) (e : Expr) (h : Rho → Option Nat) : Prop := ∀ X, Gd c X → ∀ W, Takes X W → ∀ r n, h r = some n → PE X e (fun s H _ => tX c.T X W r n s H)
def OkR (c : C0) (st : Stmt) (h : Rho → Option Nat) : Prop := ∀ X, Gd c X → ∀ W, Takes X W → ∀ r n, h r = some n → PS X st (fun _ s H => tX c.T X W r n s H)
def OkRw (c : C0) (st : Stmt) (h : Rho → Option Nat) : Prop := ∀ X, Gd c X → ∀ W, Takes X W → ∀ r n, h r = some n → PS X st (fun _ s H => tXs c.T X W r n s H)
def OkRs (c : C0) (sts : List Stmt) (h : Rho → Option Nat) : Prop := ∀ X, Gd c X → ∀ W, Takes X W → ∀ r n, h r = some n → PSs X sts (fun _ s H => tXs c.T X W r n s H)
section
variable {c : C0} {pos p : Pos} {e : Expr} {es : List Expr} {st : Stmt} {sts sa sb : List Stmt} {h h1 h2 : Rho → Option Nat} {g : CS} {fs : Rho → Option (List W)} {x : Str} {i : Nat}
theorem okRw_of (q : OkR c st h) : OkRw c st h := fun X gd W tk r n e => ps_imp (q X gd W tk r n e) fun D s H z => tX_of z
def rNo : Rho → Option Nat := fun _ => none
def rNext (g : CS) (h : Rho → Option Nat) : Rho → Option Nat := fun r => match g r with
  | some (.nx r') => h r'
  | _ => none
def rOr (h1 h2 : Rho → Option Nat) : Rho → Option Nat := fun r => match h1 r with
  | some n => some n
  | none => h2 r
theorem okRs_no : OkRs c sts rNo := fun X gd W tk r n e => by cases e
theorem okRw_no : OkRw c st rNo := fun X gd W tk r n e => by cases e
theorem okRs_here (q : OkRw c st h) : OkRs c (st :: sts) h := fun X gd W tk r n e => pss_imp (pss_cons (q X gd W tk r n e) pss_never) fun D s H z => z
theorem ps_nox {X : Cx} {t : TS} (q : PS X.nox st t) : PS X st t := ⟨fun pins s z H D I w => wpAny_mono (q.run pins s z H D (I.wish _) w) (fun _ _ y => y.unwish) fun _ _ y => y.elim⟩
theorem okRs_next (q1 : OkS c st g) (q2 : OkRs c sts h) : OkRs c (st :: sts) (rNext g h) := fun X gd W tk r n e => by
  unfold rNext at e
  split at e
  · rename_i r' e1
    refine pss_imp (pss_cons (ps_nox (q1 X.nox (gd.wish _) rfl r _ e1)) (q2 X gd W tk r' n e)) fun D s H ⟨gh, He, z1, z2⟩ => ⟨gh, He, z1, fun s' H' z3 => ⟨gh, He, z3, z2⟩⟩
  · cases e
theorem okRs_or (q1 : OkRs c sts h1) (q2 : OkRs c sts h2) : OkRs c sts (rOr h1 h2) := fun X gd W tk r n e => by
  unfold rOr at e
  split at e
  · rename_i m e1
    cases e
    exact q1 X gd W tk r n e1
  · exact q2 X gd W tk r n e
def rIf (q : Rho → Option Bool) (h1 h2 : Rho → Option Nat) : Rho → Option Nat := fun r => match q r with
  | some true => h1 r
  | some false => h2 r
  | none => none
theorem okRw_if {q : Rho → Option Bool} (hq : OkT c e q) (q1 : OkRs c sa h1) (q2 : OkRs c sb h2) : OkRw c (.If e sa sb pos) (rIf q h1 h2) := fun X gd W tk r n k => by
  unfold rIf at k
  split at k
  · rename_i e1
    exact ps_imp (ps_if (hq X gd r true e1) (q1 X gd W tk r n k) pss_never) fun D s H ⟨gh, He, z1, z2⟩ => ⟨z1.rv, fun H1 s1 => iteT ⟨gh, He, z1.step s1, z2⟩⟩
  · rename_i e1
    exact ps_imp (ps_if (hq X gd r false e1) pss_never (q2 X gd W tk r n k)) fun D s H ⟨gh, He, z1, z2⟩ => ⟨z1.rv, fun H1 s1 => iteF ⟨gh, He, z1.step s1, z2⟩⟩
  · cases k
/-- raise C('..') -/
def rRaise (n : Nat) : Rho → Option Nat := fun _ => some n
theorem okR_raise {m : Str} {j : Nat} {p2 pos' : Pos} (n : Nat) (hn : n < c.T.ne) (hx : c.T.en n = x) (hk : c.sc.names.lookup x = some .globalImplicit) (hd : (x == ("__debug__" : Str)) = false := by decide) :
    OkR c (.Raise (some (.Call (.Name x p) [.Constant (.str m) j p2] [] pos)) none pos') (rRaise n) := fun X gd W tk r n' e => by
  cases e
  obtain ⟨C, h1, h2, _⟩ := gd.tab.en n hn
  have h1' := h1
  rw [hx] at h1
  exact ps_imp (ps_raise gd.calm tk (pmk_own PySem.F.excBase_ValueError h2.own h1 h2.kp (raises_own h2.sb h2.ty) ((gd.kind x).trans hk) hd)) fun D s H ⟨gh, He, z1, z2⟩ => z2 C H h1' z1
/-- a call that raises -/
def rCall (F : Fs) (i : Nat) (fs : Rho → Option (List W)) : Rho → Option Nat := fun r => match fs r with
  | some ws => match F i ws with
    | some (.ex n) => some n
    | _ => none
  | none => none
theorem okEX_call (i : Nat) (hm : c.T.mo i = none) (hx : c.T.fn i = x) (hk : c.sc.names.lookup x = some .globalImplicit) (ha : OkA c (e :: es) fs) (hd : (x == ("__debug__" : Str)) = false := by decide)
    (he : ∀ env, starEach (e :: es) env = (false, eval e env) :: starEach es env := by intro _; rfl) (hpl : ∀ env, (backTo pos (starEach es env)).any (·.1) = false := by intro _; rfl) (hlm : c.T.lm i = none := by rfl) :
    OkEX c (.Call (.Name x p) (e :: es) [] pos) (rCall c.F i fs) := fun X gd W tk r n k => by
  unfold rCall at k
  split at k
  · rename_i ws e1
    split at k
    · rename_i m e2
      cases k
      obtain ⟨f, fd, h3, h4, h5, _⟩ := (gd.cal i ws _ e2).ex hlm
      obtain ⟨h1, h2⟩ := h5 hm
      rw [hx] at h1
      have h4 : FnOk X.prog X.w X.K X.mg X.base (L2.CX X.prog X.w) c.k f fd (c.T.ps i) (spR c.T X.K X.mg ws (.ex n)) := h4
      refine pe_imp (pe_callS (p := p) (pos := pos) (E := WE W) h4 gd.room ((gd.kind x).trans hk) h1 h2 h3 (fun σ => passAt tk σ) (ha X gd r ws e1) hd (he _) (hpl _)) fun s H Q ⟨gh, He, z1, z2⟩ => ⟨z1.rv, fun vs H1 s1 hv => ⟨hv, tb_mono s1 z1.rv.2.2, fun C H2 hC s2 => z2 C H2 hC (z1.step (s1.trans s2))⟩⟩
    · cases k
  · cases k
theorem okR_expr (q : OkEX c e h) (hs : ∀ env l, swapsWith e none l env = pure false := by intro _ _; rfl) : OkR c (.Expr e pos) h := fun X gd W tk r n k =>
  ps_imp (ps_expr (q X gd W tk r n k) (hs X.env pos.line)) fun D s H z => z
theorem okR_ret (q : OkEX c e h) : OkR c (.Return (some e) pos) h := fun X gd W tk r n k =>
  ps_imp (ps_ret (q X gd W tk r n k)) fun D s H z => z
/-- a == b, a raises -/
theorem okEX_eq {b : Expr} (q : OkEX c e h) (hm : behindInMarks .Eq b = false := by rfl) : OkEX c (.Compare e [.Eq] [b] pos) h := fun X gd W tk r n k =>
  pe_imp (pe_cmpR (op_eqG (room200 gd.room)) (q X gd W tk r n k) pe_never hm) fun s H Q z => z
end
/-! ### a def that raises -/
def runX (N : List Str) (n : Nat) (h : Rho → Option Nat) (args : List W) : Option Res := if args.length = n then match h (rho0 N args) with
    | some m => some (.ex m)
    | none => none
  else none
theorem def_okX {T : Tab} {P : Program} {w : World} {K : PySem.W.Frag} {mg : Str → Option Value} {base : Heap} {F : Fs} {k : Nat} {x qual : Str} {st : Stmt} {f : Addr} {fd : FuncData} {N ps : List Str} {h : Rho → Option Nat} {args : List W} {r : Res}
    (FN : Fun K x qual st f fd) (S : FnScope N ps (defScope st)) (tab : TabOk T K mg w) (cal : ∀ i args r, F i args = some r → Calb T P w K mg base k i args r)
    (clo : CloAll T P w K mg base) (hlw : LwOk T K mg qual f) (q : OkRs ⟨T, N, F, k, defScope st, true, false, qual⟩ (defBody st) h) (e : runX N ps.length h args = some r) : FnOk P w K mg base (cxr P w r) (k + 1) f fd ps (spR T K mg args r) := by
  unfold runX at e
  split at e
  · rename_i hn
    split at e
    · rename_i n e1
      cases e
      refine fun_okC FN S (fun vs H Q E q => by rw [rwa_len q.1, hn]) (fun cdv A outer s H vs Q E hcd hr z => ?_)
      have gd : Gd ⟨T, N, F, k, defScope st, true, false, qual⟩ (cxOf (L2.CX P w) P w K mg base N qual (defScope st) f cdv A outer s H E) := ⟨rfl, rfl, rfl, hr, S.nd, tab, cal, clo, fun _ _ => rfl, S.kind, fun z => (by cases z), fun _ => ⟨rfl, rfl, rfl⟩, fun _ => lw_of FN hlw hcd⟩
      obtain ⟨z1, zt, z2⟩ := z
      exact ⟨_, q _ gd _ (takes_of rfl rfl rfl rfl) _ _ e1, fun _ => True, H, rs_start (N := N) z1 zt, fun C s' H' r' hC hr' => z2 C H' hC hr'.ex⟩
    · cases e
  · cases e
/-- its value, or else what it raises -/
def orX (a b : Option Res) : Option Res := match a with
  | some z => some z
  | none => b
theorem orX_some (z : Res) (b : Option Res) : orX (some z) b = some z := rfl
theorem cal_defX {T : Tab} {P : Program} {w : World} {K : PySem.W.Frag} {mg : Str → Option Value} {base h : Heap} {F : Fs} {k : Nat} {x qual : Str} {st : Stmt} {N ps : List Str} {g : CS} {hx : Rho → Option Nat} {args : List W} {r : Res} {i : Nat}
    (X : K.In h) (G : h.Ns mainGlobals mg) (D : DefAt K x qual st ps) (S : FnScope N ps (defScope st)) (tab : TabOk T K mg w) (cal : ∀ i args r, F i args = some r → Calb T P w K mg base k i args r)
    (clo : CloAll T P w K mg base) (o : OkSs ⟨T, N, F, k, defScope st, true, false, qual⟩ (defBody st) g) (ox : OkRs ⟨T, N, F, k, defScope st, true, false, qual⟩ (defBody st) hx) (e : orX (runD N ps.length g args) (runX N ps.length hx args) = some r) (hp : T.ps i = ps) (hx' : T.fn i = x) (hm : T.mo i = none) (hlm : T.lm i = none := by rfl) (hql : qual ∈ T.lk → qual = x ∧ (tabAt K mg qual).isSome = true := by intro h; exact absurd h (by decide)) : Calb T P w K mg base (k + 1) i args r := by
  unfold orX at e
  split at e
  · rename_i z e1
    cases e
    exact cal_def X G D S tab cal clo o e1 hp hx' hm hlm hql
  · exact cal_any X G D (fun f fd FN hf => def_okX FN S tab cal clo (fun h => ⟨by rw [(hql h).1]; exact hf, (hql h).2⟩) ox e) hp hx' hm hlm
/-! ### try: .. except C as n: .. -/
/-- a slot let go -/
theorem RS.clr {T : Tab} {K : PySem.W.Frag} {mg : Str → Option Value} {gh : Hp → Prop} {He H : Hp} {s : L2.St} {r : Rho} (h : RS T K mg gh He H s r) (i : Nat) (v : Option V) : RS T K mg gh He H (s.set i v) (r.set i none) := by
  obtain ⟨O, h⟩ := h
  have key : ∀ (j : Nat) (x : Sl), (r.set i none)[j]? = some (some x) → r[j]? = some (some x) ∧ (s.set i v)[j]? = s[j]? := fun j x q => by
    rcases get_set q with ⟨rfl, hl, e1⟩ | ⟨hn, e1⟩
    · cases e1
    · exact ⟨e1, List.getElem?_set_ne (Ne.symm hn)⟩
  refine ⟨O, ⟨by rw [List.length_set, List.length_set]; exact h.len, h.ex, h.ow, fun j x q => ?_, fun j x q qo => ?_, fun j l x y a e1 e2 o1 o2 e3 e4 => ?_, h.gm, h.gp, h.tb⟩⟩
  · obtain ⟨k1, k2⟩ := key j _ q
    rw [k2]; exact h.wv j x k1
  · obtain ⟨k1, k2⟩ := key j _ q
    rw [k2]; exact h.og j x k1 qo
  · obtain ⟨k1, k2⟩ := key j _ e1
    obtain ⟨l1, l2⟩ := key l _ e2
    rw [k2] at e3
    rw [l2] at e4
    exact h.inj j l x y a k1 l1 o1 o2 e3 e4
/-- what is known of an exception's class in a suite -/
def ClsN (T : Tab) (X : Cx) (m : Nat) (cls : Value) (d : Option Addr) : Prop := m < T.ne ∧ d = none ∧ ∃ C, cls = .ref C ∧ X.mg (T.en m) = some (.ref C)
section
variable {c : C0} {pos p np pos' : Pos} {n x : Str} {i : Nat}
/-- isinstance(n, D) in a suite -/
theorem pe_isX {X : Cx} (gd : Gd c X) {a C : Addr} {oe : Obj} {pn : List (Addr × Obj)} {m b : Nat} {y : Str} {p1 p2 p3 p4 : Pos} (hm : m < c.T.ne) (hC : X.mg (c.T.en m) = some (.ref C)) (hz : Zc (.ref C) none oe) (hf : ∃ vs, oe.data = .fields vs)
    (hb : b < c.T.ne) (hy : c.T.en b = y) (hky : c.sc.names.lookup y = some .globalImplicit) (hN : c.N[i]? = some n) (hv : Vis c.sc n) (hbl : ("isinstance" : Str) ∈ c.T.bl) (hk : c.sc.names.lookup ("isinstance" : Str) = some .globalImplicit)
    (hd : (n == ("__debug__" : Str)) = false) (hcd : (n == ("__classdict__" : Str)) = false) (hd2 : (y == ("__debug__" : Str)) = false) :
    PE (X.suite a ((a, oe) :: pn)) (.Call (.Name "isinstance" p1) [.Name n p2, .Name y p3] [] p4) (fun s H Q => s[i]? = some (some (.ref a)) ∧ Q (.bl (c.T.es m b)) H) := by
  obtain ⟨C', h1, h2, h3⟩ := gd.tab.en m hm
  rw [hC] at h1
  cases h1
  obtain ⟨D, g1, g2, g3⟩ := gd.tab.en b hb
  have e := (h3 b hb D g1).2
  rw [hy] at g1
  have hn1 : PE (X.suite a ((a, oe) :: pn)) (.Name y p3) (tC (.ref D)) := pe_glob ((gd.kind y).trans hky) g1 rfl hd2
  have hn2 : PE (X.suite a ((a, oe) :: pn)) (.Name n p2) (tVar i) := pe_var (i := i) (by show X.N[i]? = _; rw [gd.hN]; exact hN) (by show Vis X.env.scope n; rw [gd.hsc]; exact hv) hd hcd
  refine pe_imp (pe_callB (p := p1) (pos := p4) (call_isE h2.ec hz hf) ((gd.kind _).trans hk) (gd.tab.bl _ hbl) boot_isi (pa_cons hn2 (pa_cons hn1 pa_nil rfl) rfl) (by decide) (by decide) rfl rfl) fun s H Q ⟨q1, q2⟩ => ⟨_, q1, ?_⟩
  exact ⟨.ref D, .ref D, _, rfl, fun u hu => hu, e, q2⟩
/-- the classes that are asked, in a row -/
def OkIs (c : C0) (n : Str) (i : Nat) (es : List Expr) (bs : List Nat) : Prop := ∀ X, Gd c X → ∀ (a C : Addr) (oe : Obj) (pn : List (Addr × Obj)) (m : Nat), m < c.T.ne → X.mg (c.T.en m) = some (.ref C) → Zc (.ref C) none oe → (∃ vs, oe.data = .fields vs) →
  PA (X.suite a ((a, oe) :: pn)) es (fun s H Q => s[i]? = some (some (.ref a)) ∧ Q (bs.map fun b => .bl (c.T.es m b)) H)
theorem okIs_nil : OkIs c n i [] [] := fun X gd a C oe pn m hm hC hz hf => pa_imp pa_nil fun s H Q q => q.2
theorem okIs_cons {y : Str} {p1 p2 p3 p4 : Pos} {es : List Expr} {bs : List Nat} (b : Nat) (hb : b < c.T.ne) (hy : c.T.en b = y) (hky : c.sc.names.lookup y = some .globalImplicit) (hN : c.N[i]? = some n) (hv : Vis c.sc n) (hbl : ("isinstance" : Str) ∈ c.T.bl) (hk : c.sc.names.lookup ("isinstance" : Str) = some .globalImplicit)
    (hr : OkIs c n i es bs) (hd : (n == ("__debug__" : Str)) = false := by decide) (hcd : (n == ("__classdict__" : Str)) = false := by decide) (hd2 : (y == ("__debug__" : Str)) = false := by decide)
    (hs : ∀ env, starEach (.Call (.Name "isinstance" p1) [.Name n p2, .Name y p3] [] p4 :: es) env = (false, eval (.Call (.Name "isinstance" p1) [.Name n p2, .Name y p3] [] p4) env) :: starEach es env := by intro _; rfl) :
    OkIs c n i (.Call (.Name "isinstance" p1) [.Name n p2, .Name y p3] [] p4 :: es) (b :: bs) := fun X gd a C oe pn m hm hC hz hf =>
  pa_imp (pa_cons (pe_isX gd hm hC hz hf hb hy hky hN hv hbl hk hd hcd hd2) (hr X gd a C oe pn m hm hC hz hf) (hs _)) fun s H Q q => ⟨q.1, q.1, q.2⟩
theorem dpa_bls {K : PySem.W.Frag} {H : Hp} : ∀ bs : List Bool, DpAll K H (bs.map V.bl) (bs.map PyData.bool)
  | [] => .nil
  | b :: r => .cons (.bl b) (dpa_bls r)
theorem imms_bls : ∀ bs : List Bool, imms (bs.map .bool) = true
  | [] => rfl
  | b :: bs => by simp only [List.map_cons, imms, imm, imms_bls bs]; rfl
/-- y = [isinstance(n, ..), ..] behind except x as n -/
def sTryL (T : Tab) (i j xc : Nat) (bs : List Nat) (h : Rho → Option Nat) (g : CS) : CS := fun r => match h r with
  | some m => if T.es m xc = true ∧ m < T.ne ∧ bs.length ≤ 100 ∧ i < r.length then some (.nx (((r.set i none).set j (some (.w (.d (.list (bs.map fun b => .bool (T.es m b))))))).set i none)) else none
  | none => g r
theorem okS_tryL {y : Str} {py pa ppos : Pos} {es : List Expr} {bs : List Nat} {st : Stmt} {h : Rho → Option Nat} {g : CS} (i j xc : Nat) (hxc : xc < c.T.ne) (hx : c.T.en xc = x) (hkx : c.sc.names.lookup x = some .globalImplicit) (hN : c.N[i]? = some n) (hl : c.sc.names.lookup n = some .local) (hNj : c.N[j]? = some y) (hly : Loc c.sc y) (hfa : c.fa = true)
    (hR : OkR c st h) (hS : OkSs c [st] g) (hI : OkIs c n i es bs) (hij : i ≠ j) (hdx : (x == ("__debug__" : Str)) = false := by decide) (hsw : ∀ env l, swapsWith (.List es pa) (some (.Name y py)) l env = pure false := by intro _ _; rfl) :
    OkS c (.Try [st] [.ExceptHandler (some (.Name x np)) (some n) [.Assign [.Name y py] (.List es pa) ppos] pos'] [] [] pos) (sTryL c.T i j xc bs h g) := fun X gd hxe r o k => by
  unfold sTryL at k
  split at k
  · rename_i m e1
    split at k
    · rename_i hc
      obtain ⟨hes, hm, hbs, hil⟩ := hc
      cases k
      obtain ⟨k1, k2, k3⟩ := gd.sk hfa
      obtain ⟨CX', x1, x2, x3⟩ := gd.tab.en xc hxc
      have x1' := x1
      rw [hx] at x1
      let ts : Addr → Value → Option Addr → TS := fun a cls d D s H => ClsN c.T X m cls d ∧ s[i]? = some (some (.ref a)) ∧ ∀ p, H p = none → D.nx (s.set j (some (.ref p))) (upd H p (.lst (bs.map fun b => .bl (c.T.es m b))))
      refine ps_imp (ps_try_as (i := i) (c := .ref CX') (Wout := fun _ _ _ _ => False) (ts := ts) (tb := fun W D s H => tX c.T X W r m s H) k1 k2 (by rw [gd.hN]; exact gd.nd) (by rw [gd.hN]; exact hN) ((gd.kind n).trans hl) ⟨(gd.kind x).trans hkx, hdx, .inl x1⟩ takes0
        (fun W pn xe tk _ => pss_imp (pss_one (hR (X.tr pn xe) (gd.tr pn xe) W tk r m e1)) fun D s H z => z)
        (fun a oe cls d pn hz hf => ⟨fun pins s σ H D I q => ?_⟩)) fun D s H ⟨gh, He, z1, z2⟩ => ⟨gh, He, z1, fun C H' hC z3 => ⟨true, ?_, fun _ a ha => ?_, fun z => by cases z⟩⟩
      · obtain ⟨⟨hm', rfl, C, rfl, hC⟩, q1, q2⟩ := q
        have P := pss_one (ps_set (X := X.suite a ((a, oe) :: pn)) (i := j) (pos := ppos) (pos' := py) (by show X.N.Nodup; rw [gd.hN]; exact gd.nd) (by show X.N[j]? = _; rw [gd.hN]; exact hNj) (by show Loc X.env.scope y; rw [gd.hsc]; exact hly) (pe_lst (pos := pa) (hI X gd a C oe pn m hm hC hz hf)) (hsw _ _) (.inl (gd.fn hfa y)))
        refine P.run pins s σ H D I ⟨q1, ?_⟩
        refine ⟨by rw [List.length_map]; exact sz (by omega), fun p hp => q2 p hp⟩
      · obtain ⟨C', c1, c2, c3⟩ := gd.tab.en m hm
        rw [hC] at c1
        cases c1
        have := (c3 xc hxc CX' x1').1
        rw [hes] at this
        exact PySem.W.exm_ref x2.sb x2.ec.hd x2.ty this
      · refine ⟨⟨hm, rfl, C, rfl, hC⟩, List.getElem?_set_self (by rw [z3.rv.1]; exact hil), fun p hp => z2 _ _ (RS.clr (RS.setl (xs := bs.map fun b => .bool (c.T.es m b)) (z3.clr i (some (.ref a))) hp (same_new hp _) upd_same ?_ ?_ j) i none)⟩
        · have := dpa_bls (K := X.K) (H := upd H' p (.lst (bs.map fun b => .bl (c.T.es m b)))) (bs.map fun b => c.T.es m b)
          rw [List.map_map, List.map_map] at this
          exact this
        · have := imms_bls (bs.map fun b => c.T.es m b)
          rw [List.map_map] at this
          have e : (bs.map fun b => PyData.bool (c.T.es m b)) = bs.map (PyData.bool ∘ fun b => c.T.es m b) := rfl
          rw [e, this]; rfl
    · cases k
  · exact ps_try_thru0 (hS X.nox (gd.wish _) rfl r o k)
end
/-! ### xs[i] = v, an own list -/
theorem dpa_set {K : PySem.W.Frag} {H : Hp} {v : V} {d : PyData} (hd : Dp K H v d) : ∀ (ds : List PyData) (vs : List V) (j : Nat), DpAll K H vs ds → DpAll K H (vs.set j v) (ds.set j d)
  | [], _, _, h => by cases h; exact .nil
  | x :: ds, _, 0, h => by
    cases h with
    | cons h1 h2 => exact .cons hd h2
  | x :: ds, _, j + 1, h => by
    cases h with
    | cons h1 h2 => exact .cons h1 (dpa_set hd ds _ j h2)
def sSetI (i : Nat) (fi fv : Rho → Option W) : CS := fun r => match r[i]? with
  | some (some (.own xs)) => match fv r with
    | some (.d d) => match fi r with
      | some (.d (.int k)) => match ixN xs.length k with
        | some j => if imm d = true then some (.nx (r.set i (some (.own (xs.set j d))))) else none
        | none => none
      | _ => none
    | _ => none
  | _ => none
theorem okS_setI {c : C0} {x : Str} {px pos pos' : Pos} {ix e : Expr} {fi fv : Rho → Option W} (i : Nat) (hN : c.N[i]? = some x) (hv : Vis c.sc x) (hk : OkE c ix fi) (he : OkE c e fv) (hs : ∀ env l, swapsWithSole [.Subscript (.Name x px) ix pos'] e l env = pure false := by intro _ _; rfl) (hw : ∀ env, swappedStores [.Subscript (.Name x px) ix pos'] e env = pure none := by intro _; rfl)
    (h1 : ∀ env, (assignEach [.Subscript (.Name x px) ix pos'] env).map (·.2) = [assign (.Subscript (.Name x px) ix pos') env] := by intro _; rfl) (hd : (x == ("__debug__" : Str)) = false := by decide) (hcd : (x == ("__classdict__" : Str)) = false := by decide)
    (ha : ∀ env v, assign (.Subscript (.Name x px) ix pos') env v = (do
      let a ← holding [v] (eval (.Name x px) env)
      let b ← holding [v, a] (eval ix env)
      standAt pos'
      holding [v, a, b] (setItem a b v)
      release [v, a, b] []) := by intro _ _; rfl) : OkS c (.Assign [.Subscript (.Name x px) ix pos'] e pos) (sSetI i fi fv) := fun X gd hx r o k => by
  unfold sSetI at k
  split at k
  · rename_i xs e1
    split at k
    · rename_i d e2
      split at k
      · rename_i z e3
        split at k
        · rename_i j e4
          split at k
          · rename_i hi
            cases k
            refine ps_imp (ps_asg (he X gd r _ e2) (pg_sub (pe_var (i := i) (by rw [gd.hN]; exact hN) (by rw [gd.hsc]; exact hv) hd hcd) (hk X gd r _ e3) set_list (fun v => ha X.env v)) (hs X.env pos.line) (hw X.env) (h1 X.env)) fun D s H ⟨gh, He, ⟨O, q1⟩, q2⟩ => ⟨q1.rv, fun v H1 s1 hv => ?_⟩
            have q3 := q1.step s1
            obtain ⟨a, us, g1, g2, g3, g4⟩ := q3.ov i xs e1
            refine ⟨_, g1, q3.rv, fun u H2 s2 hu => ?_⟩
            obtain rfl := int_of hu
            have q4 := q3.step s2
            obtain ⟨a', us', g1', g2', g3', g4'⟩ := q4.ov i xs e1
            rw [g1] at g1'
            cases g1'
            refine ⟨a, us', z, j, rfl, rfl, g3', by rw [dpa_len _ _ g4']; exact e4, q2 _ _ ⟨O, ?_⟩⟩
            exact q4.mut e1 g1 g2 (dpa_set (dp_tmono (mask_tsame fun a z => (q4.ow a z).2) d v hi (dp_mono s2 _ _ hv)) _ _ j g4')
          · cases k
        · cases k
      · cases k
    · cases k
  · cases k
/-! ### a call of nothing; a list so many times over -/
theorem ok_call0 {c : C0} {x : Str} {p pos : Pos} (i : Nat) (hm : c.T.mo i = none) (hx : c.T.fn i = x) (hk : c.sc.names.lookup x = some .globalImplicit) (hd : (x == ("__debug__" : Str)) = false := by decide) (hlm : c.T.lm i = none := by rfl) : OkE c (.Call (.Name x p) [] [] pos) (cCall c.F i aNil) := fun X gd r w h => by
  unfold cCall at h
  simp only [aNil] at h
  split at h
  · rename_i z e2
    have key : cxr X.prog X.w z = CX0 ∧ (∀ (Q : VK) (H : Hp), (∀ v H', Same H H' → Rw c.T X.K X.mg H' v w → Q v H') → spM c.T X.K X.mg z H Q) := by
      cases z with
      | w x => cases h; exact ⟨rfl, fun Q H q => q⟩
      | fl xs => cases h; exact ⟨rfl, fun Q H q p vs' H3 hp s3 h3 hd3 => q _ H3 s3 (Dp.lst (SqL.of h3) hd3)⟩
      | pc _ _ => cases h
      | ex _ => cases h
    obtain ⟨f, fd, h3, h4, h5, _⟩ := (gd.cal i [] z e2).ex hlm
    obtain ⟨h1, h2⟩ := h5 hm
    rw [hx] at h1
    rw [key.1] at h4
    refine pe_imp (pe_call0 (p := p) (pos := pos) h4 gd.room ((gd.kind x).trans hk) h1 h2 h3 .nil pass0 hd) fun s H Q q => ?_
    show spR c.T X.K X.mg [] z [] H Q E0
    have kq := key.2 Q H q.2
    refine ⟨.nil, q.1.2.2, ?_⟩
    cases z with
    | w x => exact kq
    | fl xs => exact kq
    | pc _ _ => exact kq.elim
    | ex _ => exact kq.elim
  · cases h
def lRep (f : Rho → Option (List PyData)) (g : Rho → Option W) : Rho → Option (List PyData) := fun r => match f r with
  | some xs => match g r with
    | some (.d (.int k)) => if 0 ≤ k ∧ k ≤ 100000 ∧ xs.length * k.toNat ≤ 100000 then some (List.replicate k.toNat xs).flatten else none
    | _ => none
  | none => none
theorem dpa_rep {K : PySem.W.Frag} {H : Hp} {vs : List V} {ds : List PyData} (h : DpAll K H vs ds) : ∀ n : Nat, DpAll K H (List.replicate n vs).flatten (List.replicate n ds).flatten
  | 0 => .nil
  | n + 1 => by
    rw [List.replicate_succ, List.replicate_succ, List.flatten_cons, List.flatten_cons]
    exact dpa_app _ _ _ _ h (dpa_rep h n)
theorem ok_rep {c : C0} {a b : Expr} {pos : Pos} {f : Rho → Option (List PyData)} {g : Rho → Option W} (ha : OkL c a f) (hb : OkE c b g) : OkL c (.BinOp a .Mult b pos) (lRep f g) := fun X gd r xs' h => by
  unfold lRep at h
  split at h
  · rename_i xs e1
    split at h
    · rename_i k e2
      split at h
      · rename_i hc
        cases h
        refine pe_imp (pe_op op_rep (ha X gd r _ e1) (hb X gd r _ e2)) fun s H Q q => ⟨q.1, fun p vs H1 hp s1 h1 hd => ⟨rv_mono s1 q.1, fun u H2 s2 hu => ?_⟩⟩
        obtain rfl := int_of hu
        refine ⟨p, k, vs, rfl, rfl, s2.at h1, by omega, by omega, by rw [dpa_len _ _ hd]; exact sz hc.2.2, fun y hy => ?_⟩
        have sn := same_new hy (.lst (List.replicate k.toNat vs).flatten)
        exact q.2 y _ _ (s1.free (s2.free hy)) (s1.trans (s2.trans sn)) upd_same (dpa_rep (dpa_mono (s2.trans sn) _ _ hd) _)
      · cases h
    · cases h
  · cases h
/-! ### try: .. except C as n: if not isinstance(n, D): return .. -/
section
variable {c : C0} {pos np pos' : Pos} {n x y : Str}
def sTryI (T : Tab) (i xc b : Nat) (h : Rho → Option Nat) (g : CS) : CS := fun r => match h r with
  | some m => if T.es m xc = true ∧ T.es m b = true ∧ m < T.ne ∧ i < r.length then some (.nx ((r.set i none).set i none)) else none
  | none => g r
theorem okS_tryI {p1 p2 p3 p4 p5 p6 : Pos} {sa : List Stmt} {st : Stmt} {h : Rho → Option Nat} {g : CS} (i xc b : Nat) (hxc : xc < c.T.ne) (hb : b < c.T.ne) (hx : c.T.en xc = x) (hy : c.T.en b = y) (hkx : c.sc.names.lookup x = some .globalImplicit) (hky : c.sc.names.lookup y = some .globalImplicit) (hN : c.N[i]? = some n) (hl : c.sc.names.lookup n = some .local) (hfa : c.fa = true)
    (hbl : ("isinstance" : Str) ∈ c.T.bl) (hk : c.sc.names.lookup ("isinstance" : Str) = some .globalImplicit) (hR : OkR c st h) (hS : OkSs c [st] g) (hdx : (x == ("__debug__" : Str)) = false := by decide) (hdn : (n == ("__debug__" : Str)) = false := by decide) (hcd : (n == ("__classdict__" : Str)) = false := by decide) (hdy : (y == ("__debug__" : Str)) = false := by decide) :
    OkS c (.Try [st] [.ExceptHandler (some (.Name x np)) (some n) [.If (.UnaryOp .Not (.Call (.Name "isinstance" p1) [.Name n p2, .Name y p3] [] p4) p5) sa [] p6] pos'] [] [] pos) (sTryI c.T i xc b h g) := fun X gd hxe r o k => by
  unfold sTryI at k
  split at k
  · rename_i m e1
    split at k
    · rename_i hc
      obtain ⟨hes, heb, hm, hil⟩ := hc
      cases k
      obtain ⟨k1, k2, k3⟩ := gd.sk hfa
      obtain ⟨CX', x1, x2, x3⟩ := gd.tab.en xc hxc
      have x1' := x1
      rw [hx] at x1
      let ts : Addr → Value → Option Addr → TS := fun a cls d D s H => ClsN c.T X m cls d ∧ s[i]? = some (some (.ref a)) ∧ D.nx s H
      refine ps_imp (ps_try_as (i := i) (c := .ref CX') (Wout := fun _ _ _ _ => False) (ts := ts) (tb := fun W D s H => tX c.T X W r m s H) k1 k2 (by rw [gd.hN]; exact gd.nd) (by rw [gd.hN]; exact hN) ((gd.kind n).trans hl) ⟨(gd.kind x).trans hkx, hdx, .inl x1⟩ takes0
        (fun W pn xe tk _ => pss_imp (pss_one (hR (X.tr pn xe) (gd.tr pn xe) W tk r m e1)) fun D s H z => z)
        (fun a oe cls d pn hz hf => ⟨fun pins s σ H D I q => ?_⟩)) fun D s H ⟨gh, He, z1, z2⟩ => ⟨gh, He, z1, fun C H' hC z3 => ⟨true, ?_, fun _ a ha => ?_, fun z => by cases z⟩⟩
      · obtain ⟨⟨hm', rfl, C, rfl, hC⟩, q1, q2⟩ := q
        have E := pe_isX (a := a) (i := i) (n := n) (p1 := p1) (p2 := p2) (p3 := p3) (p4 := p4) (pn := pn) gd hm hC hz hf hb hy hky hN (.inl hl) hbl hk hdn hcd hdy
        have P : PSs (X.suite a ((a, oe) :: pn)) [.If (.UnaryOp .Not (.Call (.Name "isinstance" p1) [.Name n p2, .Name y p3] [] p4) p5) sa [] p6] _ := pss_one (ps_if (pt_not (pt_val E (by intro _; rfl))) pss_never pss_nil)
        refine P.run pins s σ H D I ?_
        exact ⟨q1, c.T.es m b, rfl, by rw [heb]; exact q2⟩
      · obtain ⟨C', c1, c2, c3⟩ := gd.tab.en m hm
        rw [hC] at c1
        cases c1
        have := (c3 xc hxc CX' x1').1
        rw [hes] at this
        exact PySem.W.exm_ref x2.sb x2.ec.hd x2.ty this
      · exact ⟨⟨hm, rfl, C, rfl, hC⟩, List.getElem?_set_self (by rw [z3.rv.1]; exact hil), z2 _ _ ((z3.clr i (some (.ref a))).clr i none)⟩
    · cases k
  · exact ps_try_thru0 (hS X.nox (gd.wish _) rfl r o k)
end
end Nm
namespace Nm
open PySem PyProof.Rows L2

/-! ### a lambda is made -/
section
variable {X : Cx} {pins : List (Addr × Obj)} {σ : L2.St} {H : Hp} {s : Shared}
theorem inv_lam {L : LamD} {c : Addr} {o : Obj} {t' : Nat} {pm ctv : Value} (I : Inv X pins σ H s) (ho : o = { cls := .type "function", data := .func (PySem.W.kla_fn "<lambda>" L.qual L.params L.body L.scope [] pm (.ref c) ctv) }) :
    Inv X pins σ (upd H s.heap.objs.size (LamO L s.heap.objs.size c)) { s with heap := s.heap.push o, toks := t' } := by
  subst ho
  refine I.laid (a := s.heap.objs.size) (fun b u e => Heap.get?_push_of_some _ e) (Nat.le_refl _) ?_
  have e := Heap.get?_push_size s.heap (o := ({ cls := .type "function", data := .func (PySem.W.kla_fn "<lambda>" L.qual L.params L.body L.scope [] pm (.ref c) ctv) } : Obj)) rfl
  exact ⟨⟨_, _, pm, ctv, e⟩, ⟨_, e⟩, fun h1 h2 ⟨od, sl, p, t, z⟩ st => ⟨od, sl, p, t, st _ z⟩⟩
theorem cloFrom_nil {cells : List (Str × Addr)} : ∀ {names : List (Str × NameKind)}, (∀ y ∈ names, y.2 ≠ .free) → cloFrom cells names [] = []
  | [], _ => rfl
  | (n, k) :: r, h => by
    unfold cloFrom
    have hk : (k == NameKind.free) = false := beq_eq_false_iff_ne.mpr (h (n, k) List.mem_cons_self)
    rw [hk]
    exact cloFrom_nil fun y hy => h y (List.mem_cons_of_mem _ hy)
theorem lam_makeA {c P : Addr} {params : Arguments} {body : Expr} {scope : Scope} {pos : Pos} {E : Value → Shared → Prop} {Q : Value → Shared → Prop} (I : Inv X pins σ H s) (TB : LamX.TabB X.base X.mg c P) (hcode : X.env.code = .ref c)
    (hT : TabA H P) (hdef : defaultsOf params X.env = ([], [])) (hnf : ∀ y ∈ scope.names, y.2 ≠ .free)
    (h : ∀ (f c' : Addr) (q : Str) (H1 : Hp) (s' : Shared), Inv X pins σ H1 s' → Same H H1 → H1 f = some (LamO ⟨X.env.qual ++ "<lambda>", params, body, scope⟩ f c') → H1 c' = some (LamX.CodeO c' q) → Q (.ref f) s') :
    wpAny (model X.prog X.w) X.A (eval (.Lambda params body scope pos) X.env) Q E s := by
  obtain ⟨ps, hP, ht, ha⟩ := hT
  refine PySem.W.kla_eval hdef ?_
  have bP : s.heap.BuiltinsAt X.mg P := TB.bm.keeps I.bk
  have hP' : s.heap.get? P = some { cls := .none, data := .fields ps } := I.hok P _ hP
  have hcl := closure_ok (env := X.env) (scope := scope) (fun y hy e => absurd e (hnf y hy))
  rw [cloFrom_nil hnf] at hcl
  cases hc : codeAmong pos ps.toList with
  | none =>
    refine PySem.W.kla_makeFunction (mg := X.mg) (c := c) (P := P) (ps := ps) hcl I.ok.glob (I.mod.glob.keeps I.bk) hcode (TB.code.keeps I.bk) hP' ht hc TB.gP bP fun c' ctv h' tk hx hge hlt hrec htb => ?_
    obtain ⟨c2, oc, vs, t, e2, hoc, hd, hv⟩ := hrec
    cases e2
    have nC : H c' = none := I.hok.fresh hge
    have I1 := LamX.inv_table (t' := tk) (more := #[rawInt pos.line, rawInt pos.col, .ref c']) (h' := h') I hP (fun b o hb e => hx b o hb e) htb hge ⟨oc, vs, t, hoc, hd, hv⟩
    have nPc : P ≠ c' := ne_of_none hP nC
    have eL : (ps ++ #[rawInt pos.line, rawInt pos.col, .ref c']).toList = ps.toList ++ [rawInt pos.line, rawInt pos.col, .ref c'] := by simp
    have hE : ∀ b o, H b = some o → (∀ ps, o ≠ .tbl ps) → upd (upd H P (.tbl (ps ++ #[rawInt pos.line, rawInt pos.col, .ref c']))) c' (LamX.CodeO c' (X.env.qual ++ "<lambda>")) b = some o := fun b o e n => by
      rw [upd_ne (ne_of_none e nC), upd_ne (fun z => n ps (Option.some.inj (e.symm.trans (by rw [z]; exact hP))))]
      exact e
    have S1 : Same H (upd (upd H P (.tbl (ps ++ #[rawInt pos.line, rawInt pos.col, .ref c']))) c' (LamX.CodeO c' (X.env.qual ++ "<lambda>"))) := ⟨hE, fun b e => by
      by_cases z : b = c'
      · rw [z]; exact nC
      · rw [upd_ne z] at e
        by_cases z2 : b = P
        · rw [z2, upd_same] at e; cases e
        · rw [upd_ne z2] at e; exact e, fun P' z => by
      obtain ⟨ps', a1, a2, a3⟩ := z
      by_cases hb : P' = P
      · rw [hb] at a1 ⊢
        rw [hP] at a1
        cases a1
        refine ⟨_, by rw [upd_ne nPc, upd_same], by rw [eL]; exact PySem.TriplesOk_snoc _ _ _ _ ht, fun p' cv hcv => ?_⟩
        rw [eL] at hcv
        rcases LamX.among_app _ ht hcv with z | z
        · obtain ⟨c0, q, e1, e2⟩ := a3 p' cv z
          exact ⟨c0, q, e1, hE _ _ e2 LamX.codeO_ne⟩
        · exact ⟨c', _, z, upd_same⟩
      · refine ⟨ps', by rw [upd_ne (ne_of_none a1 nC), upd_ne hb]; exact a1, a2, fun p' cv hcv => ?_⟩
        obtain ⟨c0, q, e1, e2⟩ := a3 p' cv hcv
        exact ⟨c0, q, e1, hE _ _ e2 LamX.codeO_ne⟩⟩
    have nF := I1.hok.fresh (Nat.le_refl _)
    have I2 := inv_lam (L := ⟨X.env.qual ++ "<lambda>", params, body, scope⟩) (t' := tk) (c := c') (pm := (X.mg "__name__").getD .none) (ctv := ctv) I1 rfl
    exact h h'.objs.size c' _ _ _ I2 (S1.trans (same_new nF _)) upd_same ((upd_ne (Nat.ne_of_lt hlt)).trans upd_same)
  | some cv =>
    obtain ⟨c', q, e, hco⟩ := ha pos cv hc
    subst e
    refine PySem.W.kla_makeFunctionHit (mg := X.mg) (c := c) (P := P) (ps := ps) hcl I.ok.glob (I.mod.glob.keeps I.bk) hcode (TB.code.keeps I.bk) hP' ht hc bP fun ctv h' tk hx hsz => ?_
    have I1 : Inv X pins σ H { s with heap := h', toks := tk } := I.kept hx
    have nF : H h'.objs.size = none := I1.hok.fresh (Nat.le_refl _)
    have I2 := inv_lam (L := ⟨X.env.qual ++ "<lambda>", params, body, scope⟩) (t' := tk) (c := c') (pm := (X.mg "__name__").getD .none) (ctv := ctv) I1 rfl
    exact h h'.objs.size c' q _ _ I2 (same_new nF _) upd_same ((upd_ne (ne_of_none hco nF)).trans hco)
end
/-- a lambda as a value -/
def cLam (i : Nat) : Rho → Option W := fun _ => some (.fn (.l i))
theorem ok_lam {c : C0} {pos : Pos} {params : Arguments} {body : Expr} {scope : Scope} (i : Nat) (hfa : c.fa = true) (hlk : c.qn ∈ c.T.lk) (hL : c.T.lm i = some ⟨c.qn ++ ".<locals>." ++ "<lambda>", params, body, scope⟩) (hnf : (scope.names.all fun y => !decide (y.2 = .free)) = true)
    (hdef : ∀ env, defaultsOf params env = ([], []) := by intro _; rfl) : OkE c (.Lambda params body scope pos) (cLam i) := fun X gd r w k => by
  cases k
  obtain ⟨hq, hl⟩ := gd.lw hfa
  obtain ⟨cd, P, hcd, ht⟩ := hl hlk
  refine ⟨fun pins s z H Q I q => ?_⟩
  refine lam_makeA I (gd.clo.tb _ hlk _ _ ht) hcd (q.1.2.2 _ hlk _ _ ht) (hdef _) (fun y hy e => ?_) fun f c' q1 H1 s' I1 s1 e1 e2 => ?_
  · have := List.all_eq_true.mp hnf y hy
    rw [e] at this
    cases this
  · rw [hq] at e1
    exact ⟨.ref f, H1, I1, rfl, q.2 _ H1 s1 ⟨_, f, c', hL, rfl, e1, q1, e2⟩⟩
/-! ### a lambda is called -/
section
variable {prog : Program} {w : World} {A : Around} {R : Result → Shared → Prop} {s : Shared}
theorem call_exprQ {a : Addr} {args : Args} {o : Obj} {fd : FuncData} {body : Expr} {cq : Str} (hroom : A.depth < recursionLimit) (ho : s.heap.get? a = some o) (hd' : o.data = .func fd) (hco : fd.scope.isCoroutine = false) (hgen : fd.scope.isGenerator = false) (hbody : fd.body = .expr body)
    (hcd : s.heap.CodeRec fd.code cq)
    (h : wpAny (model prog w) A.in1 (bindArgs fd args) (fun binds s₁ =>
      wpAny (model prog w) A.in1 (newFunctionEnv fd.scope fd.globals fd.closure binds (cq ++ ".<locals>.") (some a) fd.code none fd.builtins)
        (fun env s₂ => s₂.heap.NoLimit ∧ codeAny (model prog w) A (.expr body env) R s₂) (fun e s' => R (.error e) s') s₁) (fun e s' => R (.error e) s') s) :
    codeAny (model prog w) A (.call (.ref a) args) R s := by
  refine codeAny_of_tree ?_
  show wpAny _ A.in1 (callAny (.ref a) args) _ _ s
  simp only [callAny]
  refine wpAny_bind (wpAny_load ho ?_)
  obtain ⟨c, oc, vs, tq, hc, hoc, hdc, hq⟩ := hcd
  simp only [hd', callFunction, hco, hgen, hbody, hc]
  rw [hc] at h
  refine wpAny_bind (m := field (.ref c) 1) (wpAny_field hoc hdc hq (wpAny_bind (wpAny_pure ?_)))
  refine wpAny_bind (wpAny_mono h (fun binds s₁ h₁ => wpAny_bind (wpAny_mono h₁ (fun env s₂ h₂ => wpAny_bind (wpAny_enterFrame h₂.1 hroom (wpAny_pure (And.intro rfl h₂.2)))) fun _ _ h' => h')) fun _ _ h' => h')
end
def lamD (N : List Str) (n : Nat) (f : Rho → Option W) (hx : Rho → Option Nat) (args : List W) : Option Res := if args.length = n then match f (rho0 N args) with
    | some v => some (.w v)
    | none => match hx (rho0 N args) with
      | some m => some (.ex m)
      | none => none
  else none
abbrev lamC (T : Tab) (N : List Str) (F : Fs) (k : Nat) (L : LamD) : C0 := ⟨T, N, F, k, L.scope, false, false, ""⟩
theorem cal_lam {T : Tab} {P : Program} {w : World} {K : PySem.W.Frag} {mg : Str → Option Value} {base : Heap} {F : Fs} {k i : Nat} {N ps : List Str} {L : LamD} {f : Rho → Option W} {hx : Rho → Option Nat} {args : List W} {r : Res} (hL : T.lm i = some L) (S : NdefX.NScope N ps [] L.scope)
    (hb : ∀ (pm ctv : Value) (c : Addr) (us : List Value), us.length = ps.length → bindArgs (PySem.W.kla_fn "<lambda>" L.qual L.params L.body L.scope [] pm (.ref c) ctv) ⟨us, []⟩ = pure (ps.zip us)) (tab : TabOk T K mg w) (cal : ∀ i args r, F i args = some r → Calb T P w K mg base k i args r) (clo : CloAll T P w K mg base)
    (o : OkE (lamC T N F k L) L.body f) (ox : OkEX (lamC T N F k L) L.body hx) (e : lamD N ps.length f hx args = some r) : Calb T P w K mg base (k + 1) i args r := by
  refine ⟨fun z => absurd (hL.symm.trans z) nofun, fun L' hL' a c cq A outer s H us vs Q E hr e0 ha hc hv hsp => ?_⟩
  rw [hL] at hL'
  cases hL'
  unfold lamD at e
  split at e
  · rename_i hn
    obtain ⟨q1, qt, q2⟩ := hsp
    have hlv : vs.length = ps.length := by rw [rwa_len q1, hn]
    obtain ⟨⟨od, sl, pm, ctv, ho⟩, _, _⟩ := e0.hok a _ ha
    have lim : s.heap.NoLimit := e0.mod.nolimit.keeps fun b o e => (e0.bs b o e).1
    have rs := rs_start (N := N) q1 qt
    refine call_exprQ (cq := cq) hr.depth ho rfl S.co S.gen rfl (NdefX.codeO_at e0.hok hc) ?_
    rw [hb pm ctv c us (by rw [← hv.length]; exact hlv)]
    refine wpAny_pure (wpAny_newFunctionEnv S.nocell (fun ⟨n, _⟩ hy => S.par n (List.of_mem_zip hy).1) (fun h₁ hns hsb => ⟨lim.fresh _ hsb, ?_⟩) S.kind)
    have kp : ∀ b o, s.heap.get? b = some o → h₁.get? b = some o := fun b o e => hsb.extBut b o (Nat.ne_of_lt (Heap.lt_size e)) (Heap.get?_push_of_some _ e)
    have C : NdefX.CellsAt [] [] [] s.heap H := ⟨rfl, (fun y c e => nomatch e), (fun x y c e => nomatch e), (fun i y e => nomatch e)⟩
    have I := NdefX.inv_startN (CX := cxr P w r) (E := E) (f := a) (F := ⟨"<lambda>", cq, L.params, [], L.scope, [], c⟩) (ws := []) (tk := s.toks + (ps.zip us).length) S hr.hd e0 hlv hv C hns kp
    have gd : Gd (lamC T N F k L) (NdefX.ncx (cxr P w r) P w K mg base N ⟨"<lambda>", cq, L.params, [], L.scope, [], c⟩ a A outer s H E) :=
      ⟨rfl, rfl, rfl, hr.deeper _, S.nd, tab, cal, clo, fun z => (by cases z), S.kind, fun z => (by cases z), fun z => (by cases z), fun z => (by cases z)⟩
    show codeAny _ _ (.expr L.body (NdefX.envF ⟨"<lambda>", cq, L.params, [], L.scope, [], c⟩ a s.heap.objs.size)) _ _
    refine PySem.W.kla_codeExpr ?_
    split at e
    · rename_i v e1
      cases e
      refine wpAny_mono ((o _ gd _ _ e1).run [] _ _ H Q I ⟨rs.rv, fun v H' s1 hv => q2 v H' s1 hv⟩) (fun v s' hq => ?_) fun e s' hq => hq
      obtain ⟨w', H', J', rv, q⟩ := hq
      exact ⟨w', H', J'.os, J'.bare, J'.base, J'.hok, rv, q⟩
    · split at e
      · rename_i m e1
        cases e
        refine wpAny_mono ((ox _ gd _ (takes_of rfl rfl rfl rfl) _ _ e1).run [] _ _ H (fun _ _ => False) I ⟨_, H, rs, fun C H' hC hr' => q2 C H' hC hr'.ex⟩) (fun v s' hq => ?_) fun e s' hq => hq
        obtain ⟨_, _, _, _, q⟩ := hq
        exact q.elim
      · cases e
  · cases e
/-! ### f(..), f a local name that holds a function -/
def fidx : Fn → Nat
  | .g i => i
  | .l i => i
def tCallV (c : C0) (X : Cx) (j : Nat) (n : Fn) (ws : List W) (z : Res) (E : L2.St → XK) (t : TA) : TE := fun s H Q => ∃ v, s[j]? = some (some v) ∧ FnV c.T X.mg H v n ∧ t s H fun vs H1 => FnV c.T X.mg H1 v n ∧ spR c.T X.K X.mg ws z vs H1 Q (E s)
section
variable {c : C0} {X : Cx} {n : Fn} {ws : List W} {z : Res} {t : TA} {E : L2.St → XK} {x : Str} {e : Expr} {es : List Expr} {p pos : Pos} {j : Nat}
theorem pe_callV (gd : Gd c X) (e2 : c.F (fidx n) ws = some z) (ha : PA X (e :: es) t) (hx : ∀ σ, PassesAt (cxr X.prog X.w z) X σ (E σ)) (hN : c.N[j]? = some x) (hv : Vis c.sc x) (hd : (x == ("__debug__" : Str)) = false) (hcd : (x == ("__classdict__" : Str)) = false)
    (he : starEach (e :: es) X.env = (false, eval e X.env) :: starEach es X.env) (hpl : (backTo pos (starEach es X.env)).any (·.1) = false) : PE X (.Call (.Name x p) (e :: es) [] pos) (tCallV c X j n ws z E t) := by
  refine ⟨fun pins s σ H Q I h => ?_⟩
  obtain ⟨v, hs, hf, ht⟩ := h
  refine wpAny_Call_Name_kw (thn ((pe_var (pos := p) (by rw [gd.hN]; exact hN) (by rw [gd.hsc]; exact hv) hd hcd).run pins s σ H (fun v1 H1 => v1 = v ∧ H1 = H) I ⟨v, hs, rfl, rfl⟩) fun u s1 ⟨v1, H1, I1, r1, q1⟩ => ?_)
  obtain ⟨ev, eH⟩ := q1
  subst ev
  rw [eH] at I1
  cases n with
  | g i =>
    obtain ⟨hlm, hm, a, rfl, hg⟩ := hf
    obtain rfl : u = Value.ref a := r1
    obtain ⟨f, fd, h3, h4, h5, _⟩ := (gd.cal i ws z e2).ex hlm
    obtain ⟨h1, h2⟩ := h5 hm
    rw [hg] at h1
    cases h1
    refine PySem.W.callWith_K (h₀ := X.base) I1.ok.mod.kin h2 (thn (ha.run pos pins s1 σ H _ I1 ht) fun us s2 ⟨vs, H2, I2, r, q⟩ => ⟨I2.kIn, ?_⟩) he hpl
    exact run_fnS h4 gd.room h3 (hx σ) I2 r q.2
  | l i =>
    obtain ⟨L, a, c1, hL, rfl, g1, g2⟩ := hf
    obtain rfl : u = Value.ref a := r1
    have fat : ∀ {pins : List (Addr × Obj)} {σ : L2.St} {H : Hp} {s : Shared}, Inv X pins σ H s → H a = some (LamO L a c1) → PySem.W.FnAt a s.heap := fun I e => by
      obtain ⟨⟨od, sl, pm, ctv, ho⟩, _, _⟩ := I.hok a _ e
      exact ⟨_, od, _, sl, ho⟩
    refine PySem.W.callWith_F (first := []) (fat I1 g1) (thn (ha.run pos pins s1 σ H _ I1 ht) fun us s2 ⟨vs, H2, I2, r, q1, q2⟩ => ?_) he hpl
    obtain ⟨L', a', c2, hL', ea, g3, cq, g4⟩ := q1
    cases ea
    rw [hL] at hL'
    cases hL'
    have fa2 : PySem.W.FnAt a s2.heap := by
      obtain ⟨⟨od, sl, pm, ctv, ho⟩, _, _⟩ := I2.hok a _ g3
      exact ⟨_, od, _, sl, ho⟩
    refine ⟨fa2, ?_⟩
    show wpAny _ _ (call (.ref a) us) _ _ _
    refine wpAny_call (codeAny_mono ((gd.cal i ws z e2).lm L hL a c2 cq X.A X.stack s2 H2 us vs Q (E σ) gd.room I2.env0 g3 g4 r q2) fun r s' hq => ?_)
    cases r with
    | error e => exact hx σ pins H2 s2 e s' I2 hq
    | ok fl =>
      cases fl with
      | ret u => exact I2.after hq
      | next => exact False.elim hq
      | brk => exact False.elim hq
      | cont => exact False.elim hq
end
def cCallV (F : Fs) (j : Nat) (fs : Rho → Option (List W)) : Rho → Option W := fun r => match rd r j with
  | some (.fn n) => match fs r with
    | some ws => match F (fidx n) ws with
      | some z => z.val
      | none => none
    | none => none
  | _ => none
def rCallV (F : Fs) (j : Nat) (fs : Rho → Option (List W)) : Rho → Option Nat := fun r => match rd r j with
  | some (.fn n) => match fs r with
    | some ws => match F (fidx n) ws with
      | some (.ex m) => some m
      | _ => none
    | none => none
  | _ => none
section
variable {c : C0} {x : Str} {e : Expr} {es : List Expr} {p pos : Pos} {fs : Rho → Option (List W)}
theorem ok_callV (j : Nat) (hN : c.N[j]? = some x) (hv : Vis c.sc x) (ha : OkA c (e :: es) fs) (hd : (x == ("__debug__" : Str)) = false := by decide) (hcd : (x == ("__classdict__" : Str)) = false := by decide)
    (he : ∀ env, starEach (e :: es) env = (false, eval e env) :: starEach es env := by intro _; rfl) (hpl : ∀ env, (backTo pos (starEach es env)).any (·.1) = false := by intro _; rfl) :
    OkE c (.Call (.Name x p) (e :: es) [] pos) (cCallV c.F j fs) := fun X gd r w h => by
  unfold cCallV at h
  split at h
  · rename_i n e0
    split at h
    · rename_i ws e1
      split at h
      · rename_i z e2
        have key : cxr X.prog X.w z = CX0 ∧ ∀ (Q : VK) (vs : List V) (H : Hp), RwAll c.T X.K X.mg H vs ws → TbOk c.T X.K X.mg H → (∀ v H', Same H H' → Rw c.T X.K X.mg H' v w → Q v H') → spR c.T X.K X.mg ws z vs H Q E0 := by
          cases z with
          | w x => cases h; exact ⟨rfl, fun Q vs H a b q => ⟨a, b, q⟩⟩
          | fl xs => cases h; exact ⟨rfl, fun Q vs H a b q => ⟨a, b, fun p vs' H3 hp s3 h3 hd3 => q _ H3 s3 (Dp.lst (SqL.of h3) hd3)⟩⟩
          | pc _ _ => cases h
          | ex _ => cases h
        refine pe_imp (pe_callV (E := fun _ => E0) gd e2 (ha X gd r ws e1) (fun σ => by rw [key.1]; intro _ _ _ _ _ _ h; exact h.elim) hN hv hd hcd (he _) (hpl _)) fun s H Q q => ?_
        obtain ⟨v, g1, g2⟩ := q.1.2.1 j _ e0
        exact ⟨v, g1, g2, q.1, fun vs H1 s1 hv => ⟨fnv_mono s1 g2, key.2 Q vs H1 hv (tb_mono s1 q.1.2.2) fun v H2 s2 hv2 => q.2 v H2 (s1.trans s2) hv2⟩⟩
      · cases h
    · cases h
  · cases h
theorem okEX_callV (j : Nat) (hN : c.N[j]? = some x) (hv : Vis c.sc x) (ha : OkA c (e :: es) fs) (hd : (x == ("__debug__" : Str)) = false := by decide) (hcd : (x == ("__classdict__" : Str)) = false := by decide)
    (he : ∀ env, starEach (e :: es) env = (false, eval e env) :: starEach es env := by intro _; rfl) (hpl : ∀ env, (backTo pos (starEach es env)).any (·.1) = false := by intro _; rfl) :
    OkEX c (.Call (.Name x p) (e :: es) [] pos) (rCallV c.F j fs) := fun X gd W tk r m h => by
  unfold rCallV at h
  split at h
  · rename_i n e0
    split at h
    · rename_i ws e1
      split at h
      · rename_i m' e2
        cases h
        refine pe_imp (pe_callV (E := WE W) gd e2 (ha X gd r ws e1) (fun σ => passAt tk σ) hN hv hd hcd (he _) (hpl _)) fun s H Q ⟨gh, He, z1, z2⟩ => ?_
        obtain ⟨v, g1, g2⟩ := z1.rv.2.1 j _ e0
        exact ⟨v, g1, g2, z1.rv, fun vs H1 s1 hv => ⟨fnv_mono s1 g2, hv, tb_mono s1 z1.rv.2.2, fun C H2 hC s2 => z2 C H2 hC (z1.step (s1.trans s2))⟩⟩
      · cases h
    · cases h
  · cases h
end
/-! ### lists of functions -/
section
variable {c : C0} {x y : Str} {e a b : Expr} {es : List Expr} {p pos px py : Pos} {fs : Rho → Option (List W)} {fa fb : Rho → Option W}
def cFn (i : Nat) : Rho → Option W := fun _ => some (.fn (.g i))
/-- a def of the module as a value -/
theorem ok_fn (i : Nat) (hx : c.T.fn i = x) (hi : i ∈ c.T.fg) (hk : c.sc.names.lookup x = some .globalImplicit) (hd : (x == ("__debug__" : Str)) = false := by decide) : OkE c (.Name x pos) (cFn i) := fun X gd r w h => by
  cases h
  obtain ⟨h1, h2, a, h3⟩ := gd.tab.fg i hi
  have h3' := h3
  rw [hx] at h3
  exact pe_imp (pe_glob (v := .ref a) ((gd.kind x).trans hk) h3 rfl hd) fun s H Q q => q.2 _ H (Same.refl H) ⟨h1, h2, a, rfl, h3'⟩
def wFns : List W → Option (List Fn)
  | [] => some []
  | .fn n :: r => match wFns r with
    | some ns => some (n :: ns)
    | none => none
  | _ :: _ => none
theorem wFns_all {T : Tab} {K : PySem.W.Frag} {mg : Str → Option Value} {H : Hp} : ∀ {ws : List W} {ns : List Fn} {vs : List V}, wFns ws = some ns → RwAll T K mg H vs ws → FnAll T mg H vs ns
  | [], ns, _, h, .nil => by cases h; exact .nil
  | .fn n :: r, ns, _, h, .cons h1 h2 => by
    unfold wFns at h
    split at h
    · rename_i ys e
      cases h
      exact .cons h1 (wFns_all e h2)
    · cases h
  | .d _ :: r, ns, _, h, _ => by cases h
  | .o _ _ :: r, ns, _, h, _ => by cases h
  | .m _ :: r, ns, _, h, _ => by cases h
  | .fns _ :: r, ns, _, h, _ => by cases h
theorem fna_len {T : Tab} {mg : Str → Option Value} {H : Hp} : ∀ {vs : List V} {ns : List Fn}, FnAll T mg H vs ns → vs.length = ns.length
  | _, _, .nil => rfl
  | _, _, .cons _ t => by simp [fna_len t]
theorem fna_app {T : Tab} {mg : Str → Option Value} {H : Hp} : ∀ {vs us : List V} {ns ms : List Fn}, FnAll T mg H vs ns → FnAll T mg H us ms → FnAll T mg H (vs ++ us) (ns ++ ms)
  | _, _, _, _, .nil, h => h
  | _, _, _, _, .cons h t, g => .cons h (fna_app t g)
theorem fna_getV {T : Tab} {mg : Str → Option Value} {H : Hp} : ∀ {vs : List V} {ns : List Fn} (i : Nat) (v : V), FnAll T mg H vs ns → vs[i]? = some v → ∃ n, ns[i]? = some n ∧ FnV T mg H v n
  | _, _, i, v, .nil, e => by simp at e
  | _, _, 0, v, .cons h t, e => by simp at e; subst e; exact ⟨_, rfl, h⟩
  | _, _, i + 1, v, .cons h t, e => by
    obtain ⟨n, h1, h2⟩ := fna_getV i v t (by simpa using e)
    exact ⟨n, by simpa using h1, h2⟩
def cFns (h : Rho → Option (List W)) : Rho → Option W := fun r => match h r with
  | some ws => match wFns ws with
    | some ns => if ns.length ≤ 100000 then some (.fns ns) else none
    | none => none
  | none => none
theorem ok_fns (he : OkA c es fs) : OkE c (.List es pos) (cFns fs) := fun X gd r w q => by
  unfold cFns at q
  split at q
  · rename_i ws e1
    split at q
    · rename_i ns e2
      split at q
      · rename_i hz
        cases q
        refine pe_imp (pe_lst (he X gd r ws e1)) fun s H Q q => ⟨q.1, fun vs H1 s1 hv => ?_⟩
        have hd := wFns_all e2 hv
        refine ⟨by rw [fna_len hd]; exact sz hz, fun p hp => q.2 _ _ (s1.trans (same_new hp _)) ⟨p, vs, rfl, upd_same, fna_mono (same_new hp _) hd⟩⟩
      · cases q
    · cases q
  · cases q
def cCatF (fa fb : Rho → Option W) : Rho → Option W := fun r => match fa r with
  | some (.fns xs) => match fb r with
    | some (.fns ys) => if xs.length + ys.length ≤ 100000 then some (.fns (xs ++ ys)) else none
    | _ => none
  | _ => none
theorem ok_catF (ha : OkE c a fa) (hb : OkE c b fb) : OkE c (.BinOp a .Add b pos) (cCatF fa fb) := fun X gd r w h => by
  unfold cCatF at h
  split at h
  · rename_i xs e1
    split at h
    · rename_i ys e2
      split at h
      · rename_i hz
        cases h
        refine pe_imp (pe_op op_catS (ha X gd r _ e1) (hb X gd r _ e2)) fun s H Q q => ⟨q.1, fun v H1 s1 hv => ⟨rv_mono s1 q.1, fun u H2 s2 hu => ?_⟩⟩
        obtain ⟨l, vs, rfl, g1, g2⟩ := rw_mono (w := .fns xs) s2 hv
        obtain ⟨m, us, rfl, g3, g4⟩ := hu
        refine ⟨_, _, _, _, rfl, rfl, SqL.of g1, SqL.of g3, by rw [fna_len g2, fna_len g4]; exact sz hz, fun p hp => ?_⟩
        exact q.2 _ _ ((s1.trans s2).trans (same_new hp _)) ⟨p, _, rfl, upd_same, fna_mono (same_new hp _) (fna_app g2 g4)⟩
      · cases h
    · cases h
  · cases h
/-- {} as data -/
def cD0 : Rho → Option W := fun _ => some (.d (.dict []))
theorem ok_dct0 : OkE c (.Dict [] [] pos) cD0 := fun X gd r w k => by
  cases k
  exact pe_imp pe_dnewK fun s H Q q p hp => q.2 _ _ (same_new hp _) (Dp.dct upd_same)
/-! ### for f in fs -/
def forF (i : Nat) (h : CS) : List Fn → CS
  | [], r => some (.nx r)
  | n :: ns, r => match h (r.set i (some (.w (.fn n)))) with
    | some (.nx r') => forF i h ns r'
    | some (.ct r') => forF i h ns r'
    | some (.bk r') => some (.nx r')
    | some (.rt z) => some (.rt z)
    | none => none
def sForF (i j : Nat) (h : CS) : CS := fun r => match r[j]? with
  | some (some (.w (.fns ns))) => forF i h ns r
  | _ => none
theorem okS_forF {body : List Stmt} {h : CS} (i j : Nat) (hN : c.N[i]? = some x) (hl : Loc c.sc x) (hN2 : c.N[j]? = some y) (hv : Vis c.sc y) (hb : OkSs c body h) (hd : (y == ("__debug__" : Str)) = false := by decide) (hcd : (y == ("__classdict__" : Str)) = false := by decide)
    (hf : c.fa = true ∨ c.sc.names.lookup x = some .local := by first | exact .inl rfl | exact .inr rfl) (hfs : ∀ env x, foldedSetIterable (.Name y py) env x = pure x := by intro _ _; rfl) :
    OkS c (.For (.Name x px) (.Name y py) body [] pos) (sForF i j h) := fun X gd hx r o k => by
  unfold sForF at k
  split at k
  · rename_i ns e1
    refine ps_imp (ps_for (by rw [hx]; exact PassesOwn.never) gd.calm (pi_list (pe_var (i := j) (by rw [gd.hN]; exact hN2) (by rw [gd.hsc]; exact hv) hd hcd)) (pg_name (i := i) (by rw [gd.hN]; exact gd.nd) (by rw [gd.hN]; exact hN) (by rw [gd.hsc]; exact hl) (gd.st hf)) (okU hb gd hx) (hfs X.env)) fun D s H ⟨gh, He, ⟨O, q1⟩, q2⟩ => ?_
    obtain ⟨v, g1, a, vs, rfl, g2, g3⟩ := q1.wv j _ e1
    have mg1 : MonoP (fun M => M a = some (.lst vs) ∧ FnAll c.T X.mg M vs ns) := fun A B e q => ⟨e.at q.1, fna_mono e q.2⟩
    have q3 : RS c.T X.K X.mg (fun M => gh M ∧ (M a = some (.lst vs) ∧ FnAll c.T X.mg M vs ns)) He H s r := RS.ghost q1 mg1 ⟨g2, g3⟩
    refine ⟨_, g1, a, rfl, ⟨vs, SqL.of (mask_sub.at g2)⟩, ?_⟩
    have hlen := fna_len g3
    refine ⟨fun i' m s H => m = ns.length - i' ∧ i' ≤ ns.length ∧ ∃ r, RS c.T X.K X.mg (fun M => gh M ∧ (M a = some (.lst vs) ∧ FnAll c.T X.mg M vs ns)) He H s r ∧ forF i h (ns.drop i') r = some o, ⟨ns.length, by simp, Nat.zero_le _, r, q3, k⟩, ?_⟩
    rintro i' m s H ⟨rfl, hi, r, ⟨O, h1⟩, h2⟩
    have ga := h1.gp.2.1
    have gf := h1.gp.2.2
    by_cases hlt : i' < ns.length
    · rw [List.drop_eq_getElem_cons hlt] at h2
      unfold forF at h2
      refine .inr ⟨⟨vs, vs[i'], SqL.of (mask_sub.at ga), List.getElem?_eq_getElem (by omega)⟩, fun s' H' => ∃ r', RS c.T X.K X.mg (fun M => gh M ∧ (M a = some (.lst vs) ∧ FnAll c.T X.mg M vs ns)) He H' s' r' ∧ forF i h (ns.drop (i' + 1)) r' = some o, fun s' H' ⟨r', q4, q5⟩ => ⟨ns.length - (i' + 1), by omega, rfl, hlt, r', q4, q5⟩, fun z H2 hy => ?_⟩
      obtain ⟨rfl, hy⟩ := hy
      have e3 := hy vs (SqL.of (mask_sub.at ga))
      obtain ⟨n, e4, hn⟩ := fna_getV i' z gf e3
      rw [List.getElem?_eq_getElem hlt] at e4
      cases e4
      have q4 : RS c.T X.K X.mg (fun M => gh M ∧ (M a = some (.lst vs) ∧ FnAll c.T X.mg M vs ns)) He H2 (s.set i (some z)) (r.set i (some (.w (.fn ns[i'])))) := ⟨O, h1.set (w := .fn ns[i']) hn i⟩
      split at h2
      · rename_i r' e3
        exact ⟨_, _, e3, _, He, q4, fun s3 H3 q5 => ⟨r', q5, h2⟩⟩
      · rename_i r' e3
        exact ⟨_, _, e3, _, He, q4, fun s3 H3 q5 => ⟨r', q5, h2⟩⟩
      · rename_i r' e3
        cases h2
        exact ⟨_, _, e3, _, He, q4, fun s3 H3 q5 => q2 s3 H3 (q5.unghost q1.gm)⟩
      · rename_i z e3
        cases h2
        refine ⟨_, _, e3, _, He, q4, ?_⟩
        cases z <;> exact q2
      · cases h2
    · have e : i' = ns.length := by omega
      subst e
      rw [List.drop_length] at h2
      cases h2
      exact .inl ⟨⟨vs, SqL.of (mask_sub.at ga), Nat.le_of_eq hlen⟩, q2 s H (RS.unghost ⟨O, h1⟩ q1.gm)⟩
  · cases k
end
/-! ### a def that tells of which classes an exception is -/
theorem call_isQ {X : Cx} {a D : Addr} {oe : Obj} (C : ExcC X.K D) (hp : (a, oe) ∈ X.pn) (hz : Zc (.ref D) none oe) (hf : ∃ vs, oe.data = .fields vs) : CallR X (.builtin "isinstance") (rIsE X.K D a) := by
  intro pins s σ H xs us Q I r h
  obtain ⟨c, cv, b, rfl, hcv, e, q⟩ := h
  cases r with
  | cons rx rr =>
    cases rr with
    | cons rt rr =>
      cases rr
      cases rx
      have ec := hcv _ rt
      subst ec
      obtain ⟨hget, _⟩ := I.pin (a, oe) (List.mem_append.mpr (.inl hp))
      obtain ⟨vs, hv⟩ := hf
      have J : PySem.W.InstAt s.heap a oe D none := by
        obtain ⟨oc, od, oda, osl⟩ := oe
        obtain ⟨h1, h2⟩ := hz
        dsimp only at h1 h2 hv
        subst h1 h2 hv
        exact ⟨hget, rfl, rfl, trivial⟩
      exact PySem.W.kia_one (PySem.W.handS_kitx_exc C.hg C.hk C.hs C.hd C.ha C.hn C.ht C.hm) I.kIn J e (fun z => nomatch z) fun tk => ⟨.bl b, H, I.kept (t' := tk) fun _ _ z => z, rfl, q⟩
/-- what is known in such a def's body -/
structure Gq (T : Tab) (N : List Str) (sc : Scope) (X : Cx) : Prop where
  hN : X.N = N
  hsc : X.env.scope = sc
  nd : N.Nodup
  tab : TabOk T X.K X.mg X.w
theorem Gq.kind {T : Tab} {N : List Str} {sc : Scope} {X : Cx} (g : Gq T N sc X) (x : Str) : X.env.kindOf x = sc.names.lookup x := by
  show X.env.scope.names.lookup x = _
  rw [g.hsc]
/-- [isinstance(n, ..), ..]: what it gives by the exception's number -/
def OkQ (T : Tab) (N : List Str) (sc : Scope) (i : Nat) (es : List Expr) (bs : Nat → List Bool) : Prop := ∀ X, Gq T N sc X → ∀ (a C : Addr) (oe : Obj) (m : Nat), (a, oe) ∈ X.pn → m < T.ne → X.mg (T.en m) = some (.ref C) → Zc (.ref C) none oe → (∃ vs, oe.data = .fields vs) →
  PA X es (fun s H Q => s[i]? = some (some (.ref a)) ∧ Q ((bs m).map .bl) H)
section
variable {T : Tab} {N : List Str} {sc : Scope} {i : Nat} {n y : Str} {es : List Expr} {bs : Nat → List Bool} {p1 p2 p3 p4 : Pos}
theorem okQ_nil : OkQ T N sc i [] (fun _ => []) := fun X gd a C oe m hp hm hC hz hf => pa_imp pa_nil fun s H Q q => q.2
theorem okQ_cons (b : Nat) (hb : b < T.ne) (hy : T.en b = y) (hky : sc.names.lookup y = some .globalImplicit) (hN : N[i]? = some n) (hv : Vis sc n) (hbl : ("isinstance" : Str) ∈ T.bl) (hk : sc.names.lookup ("isinstance" : Str) = some .globalImplicit)
    (hr : OkQ T N sc i es bs) (hd : (n == ("__debug__" : Str)) = false := by decide) (hcd : (n == ("__classdict__" : Str)) = false := by decide) (hd2 : (y == ("__debug__" : Str)) = false := by decide)
    (hs : ∀ env, starEach (.Call (.Name "isinstance" p1) [.Name n p2, .Name y p3] [] p4 :: es) env = (false, eval (.Call (.Name "isinstance" p1) [.Name n p2, .Name y p3] [] p4) env) :: starEach es env := by intro _; rfl) :
    OkQ T N sc i (.Call (.Name "isinstance" p1) [.Name n p2, .Name y p3] [] p4 :: es) (fun m => T.es m b :: bs m) := fun X gd a C oe m hp hm hC hz hf => by
  obtain ⟨C', h1, h2, h3⟩ := gd.tab.en m hm
  rw [hC] at h1
  cases h1
  obtain ⟨D, g1, g2, g3⟩ := gd.tab.en b hb
  have e := (h3 b hb D g1).2
  rw [hy] at g1
  have hn1 : PE X (.Name y p3) (tC (.ref D)) := pe_glob ((gd.kind y).trans hky) g1 rfl hd2
  have hn2 : PE X (.Name n p2) (tVar i) := pe_var (i := i) (by rw [gd.hN]; exact hN) (by rw [gd.hsc]; exact hv) hd hcd
  have P := pe_callB (p := p1) (pos := p4) (call_isQ h2.ec hp hz hf) ((gd.kind _).trans hk) (gd.tab.bl _ hbl) boot_isi (pa_cons hn2 (pa_cons hn1 pa_nil rfl) rfl) (by decide) (by decide) rfl rfl
  exact pa_imp (pa_cons P (hr X gd a C oe m hp hm hC hz hf) (hs _)) fun s H Q q => ⟨_, q.1, ⟨.ref D, .ref D, _, rfl, fun u hu => hu, e, q.1, q.2⟩⟩
theorem boot_ve : bootBuiltins "ValueError" = some (.type "ValueError") := by decide +kernel
theorem okQ_ve (hb2 : ("ValueError" : Str) ∈ T.bl) (hky : sc.names.lookup ("ValueError" : Str) = some .globalImplicit) (hN : N[i]? = some n) (hv : Vis sc n) (hbl : ("isinstance" : Str) ∈ T.bl) (hk : sc.names.lookup ("isinstance" : Str) = some .globalImplicit)
    (hr : OkQ T N sc i es bs) (hd : (n == ("__debug__" : Str)) = false := by decide) (hcd : (n == ("__classdict__" : Str)) = false := by decide)
    (hs : ∀ env, starEach (.Call (.Name "isinstance" p1) [.Name n p2, .Name "ValueError" p3] [] p4 :: es) env = (false, eval (.Call (.Name "isinstance" p1) [.Name n p2, .Name "ValueError" p3] [] p4) env) :: starEach es env := by intro _; rfl) :
    OkQ T N sc i (.Call (.Name "isinstance" p1) [.Name n p2, .Name "ValueError" p3] [] p4 :: es) (fun m => true :: bs m) := fun X gd a C oe m hp hm hC hz hf => by
  obtain ⟨C', h1, h2, h3⟩ := gd.tab.en m hm
  rw [hC] at h1
  cases h1
  have hn1 : PE X (.Name "ValueError" p3) (tC (.ty "ValueError")) := pe_bltn ((gd.kind _).trans hky) (gd.tab.bl _ hb2) boot_ve rfl (by decide) (by decide)
  have hn2 : PE X (.Name n p2) (tVar i) := pe_var (i := i) (by rw [gd.hN]; exact hN) (by rw [gd.hsc]; exact hv) hd hcd
  have P := pe_callB (p := p1) (pos := p4) (call_isQ h2.ec hp hz hf) ((gd.kind _).trans hk) (gd.tab.bl _ hbl) boot_isi (pa_cons hn2 (pa_cons hn1 pa_nil rfl) rfl) (by decide) (by decide) rfl rfl
  exact pa_imp (pa_cons P (hr X gd a C oe m hp hm hC hz hf) (hs _)) fun s H Q q => ⟨_, q.1, ⟨.ty "ValueError", .type "ValueError", _, rfl, fun u hu => hu, h2.ve, q.1, q.2⟩⟩
end
section
variable {T : Tab} {P : Program} {w : World} {K : PySem.W.Frag} {mg : Str → Option Value} {base h : Heap} {x qual n v : Str} {st : Stmt} {es1 es2 es3 : List Expr} {b1 b2 b3 : Nat → List Bool} {q1 q2 q3 q4 q5 q6 q7 q8 q9 q10 q11 q12 : Pos}
theorem kinds_ok (X : K.In h) (G : h.Ns mainGlobals mg) (D : DefAt K x qual st [n]) (S : FnScope [n, v] [n] (defScope st)) (tab : TabOk T K mg w)
    (hb : defBody st = [.Assign [.Name v q1] (.List es1 q2) q3, .Assign [.Name v q4] (.BinOp (.Name v q5) .Add (.List es2 q6) q7) q8, .Return (some (.BinOp (.Name v q9) .Add (.List es3 q10) q11)) q12])
    (h1 : OkQ T [n, v] (defScope st) 0 es1 b1) (h2 : OkQ T [n, v] (defScope st) 0 es2 b2) (h3 : OkQ T [n, v] (defScope st) 0 es3 b3) (hv : Vis (defScope st) v) (hl : Loc (defScope st) v)
    (few : ∀ m, (b1 m).length ≤ 100 ∧ (b2 m).length ≤ 100 ∧ (b3 m).length ≤ 100) (hd : (v == ("__debug__" : Str)) = false := by decide) (hcd' : (v == ("__classdict__" : Str)) = false := by decide)
    (hs1 : ∀ env l, swapsWith (.List es1 q2) (some (.Name v q1)) l env = pure false := by intro _ _; rfl) (hs2 : ∀ env l, swapsWith (.BinOp (.Name v q5) .Add (.List es2 q6) q7) (some (.Name v q4)) l env = pure false := by intro _ _; rfl) :
    KOk T P w K mg base x (fun m => (b1 m ++ b2 m) ++ b3 m) := by
  obtain ⟨f, fd, a, FN, b⟩ := D
  refine ⟨f, fd, n, PySem.W.mg_of X G a, FN.kp, .all b, fun A outer s H p m C args Q hr hpin hm hC hz hf e0 hbind hq => ?_⟩
  obtain ⟨oc, od, kV, doc, pm, an, cdv, ct, osl, rfl, lk, hcd⟩ := FN.ex
  have KX : K.In s.heap := e0.mod.kin.keeps fun b o e => (e0.bs b o e).1
  have lim : s.heap.NoLimit := e0.mod.nolimit.keeps fun b o e => (e0.bs b o e).1
  have hkind : ∀ y ∈ [n].zip [Value.ref p.1], (defScope st).names.lookup y.1 = some .local ∨ ((defScope st).names.lookup y.1 = some .cell ∧ ((cellsFrom (s.heap.objs.size + 1) (defScope st).names []).lookup y.1).isSome = true) := fun ⟨n, v⟩ hy => by
    rcases S.par n (List.of_mem_zip hy).1 with q | q
    · exact .inl q
    · exact .inr ⟨q, PySem.W.cellsFrom_some _ _ _ (.inl q)⟩
  refine codeAny_call_function hr.depth (KX _ _ lk) rfl S.co S.gen rfl (PySem.W.codeRec_of KX hcd) (hbind _ _ _ _ ?_)
  refine wpAny_newFunctionEnv_cells S.kind hkind fun env he s1 xc => ?_
  subst he
  refine ⟨lim.keeps xc.toInCall.keep, codeAny_func ?_⟩
  have I : Inv (L2H.cxH CX0 P w K mg base [n, v] qual (defScope st) f cdv A outer s H E0 p) [] (L2.start [n, v] [.ref p.1]) H s1 := L2H.inv_startH S hpin e0 rfl (.cons rfl .nil) xc
  have gq : Gq T [n, v] (defScope st) (L2H.cxH CX0 P w K mg base [n, v] qual (defScope st) f cdv A outer s H E0 p) := ⟨rfl, rfl, S.nd, tab⟩
  have hp : (p.1, p.2) ∈ (L2H.cxH CX0 P w K mg base [n, v] qual (defScope st) f cdv A outer s H E0 p).pn := List.mem_cons_self
  have e1 := pe_lst (pos := q2) (h1 _ gq p.1 C p.2 m hp hm hC hz hf)
  have e2 := pe_lst (pos := q6) (h2 _ gq p.1 C p.2 m hp hm hC hz hf)
  have e3 := pe_lst (pos := q10) (h3 _ gq p.1 C p.2 m hp hm hC hz hf)
  have s1' := ps_set (i := 1) (pos := q3) (pos' := q1) (x := v) S.nd rfl hl e1 (hs1 _ _) (.inl rfl)
  have s2' := ps_set (i := 1) (pos := q8) (pos' := q4) (x := v) S.nd rfl hl (pe_op (pos := q7) op_catS (pe_var (i := 1) (pos := q5) (x := v) rfl hv hd hcd') e2) (hs2 _ _) (.inl rfl)
  have s3' := ps_ret (pos := q12) (pe_op (pos := q11) op_catS (pe_var (i := 1) (pos := q9) (x := v) rfl hv hd hcd') e3)
  have hbody := pss_cons s1' (pss_cons s2' (pss_one s3'))
  obtain ⟨f1, f2, f3⟩ := few m
  show wpAny _ _ (execs (defBody st) _) _ _ _
  rw [hb]
  refine wpAny_mono (hbody.run [] s1 (L2.start [n, v] [.ref p.1]) H { nx := fun _ H' => Q .non H', rt := Q } I ⟨rfl, by rw [List.length_map]; exact sz (by omega), fun r1 hr1 => ?_⟩) (fun fl s' hs => ?_) fun e s' hs => hs
  · have sm1 := same_new hr1 (.lst ((b1 m).map V.bl))
    refine ⟨.ref r1, rfl, rfl, by rw [List.length_map]; exact sz (by omega), fun r2 hr2 => ?_⟩
    have sm2 := same_new hr2 (.lst ((b2 m).map V.bl))
    refine ⟨r1, r2, _, _, rfl, rfl, SqL.of (sm2.at upd_same), SqL.of upd_same, by rw [List.length_map, List.length_map]; exact sz (by omega), fun r3 hr3 => ?_⟩
    have sm3 := same_new hr3 (.lst ((b1 m).map V.bl ++ (b2 m).map V.bl))
    refine ⟨.ref r3, rfl, rfl, by rw [List.length_map]; exact sz (by omega), fun r4 hr4 => ?_⟩
    have sm4 := same_new hr4 (.lst ((b3 m).map V.bl))
    refine ⟨r3, r4, _, _, rfl, rfl, SqL.of (sm4.at upd_same), SqL.of upd_same, by rw [List.length_append, List.length_map, List.length_map, List.length_map]; exact sz (by omega), fun r5 hr5 => ?_⟩
    have sm5 := same_new hr5 (.lst (((b1 m).map V.bl ++ (b2 m).map V.bl) ++ (b3 m).map V.bl))
    have all := sm1.trans (sm2.trans (sm3.trans (sm4.trans sm5)))
    exact hq r5 _ ((sm1.trans (sm2.trans (sm3.trans sm4))).free hr5) all (by rw [upd_same, List.map_append, List.map_append])
  · have fin : ∀ {σ' : L2.St} {H' : Hp} {v' : V} {u : Value}, Inv (L2H.cxH CX0 P w K mg base [n, v] qual (defScope st) f cdv A outer s H E0 p) [] σ' H' s' → RelV v' u → Q v' H' → CE outer P w H s Q u s' :=
      fun {σ' H' v' u} J rv q => ⟨v', H', J.os, J.bare, J.base, J.hok, rv, q⟩
    cases fl with
    | ret u =>
      obtain ⟨v, σ', H', J, rv, q⟩ := hs
      exact fin J rv q
    | next =>
      obtain ⟨σ', H', J, q⟩ := hs
      exact fin (v' := V.non) (u := Value.none) J rfl q
    | brk =>
      obtain ⟨_, _, _, q⟩ := hs
      exact False.elim q
    | cont =>
      obtain ⟨_, _, _, q⟩ := hs
      exact False.elim q
end
/-! ### try: .. except D as n: y = f(n) -/
section
variable {c : C0} {n x y kx : Str} {i : Nat} {pos p np pos' kp kn kpos : Pos}
theorem pe_callQ {X : Cx} (gd : Gd c X) {bs : Nat → List Bool} {a C : Addr} {oe : Obj} {pn : List (Addr × Obj)} {m : Nat} (hk1 : 1 ≤ c.k) (kd : c.T.kd = some (kx, bs)) (hm : m < c.T.ne) (hC : X.mg (c.T.en m) = some (.ref C)) (hz : Zc (.ref C) none oe) (hf : ∃ vs, oe.data = .fields vs)
    (hky : c.sc.names.lookup kx = some .globalImplicit) (hN : c.N[i]? = some n) (hv : Vis c.sc n) (hd : (n == ("__debug__" : Str)) = false) (hcd : (n == ("__classdict__" : Str)) = false) (hd2 : (kx == ("__debug__" : Str)) = false) :
    PE (X.suite a ((a, oe) :: pn)) (.Call (.Name kx kp) [.Name n kn] [] kpos) (fun s H Q => s[i]? = some (some (.ref a)) ∧ ∀ q H', H q = none → Same H H' → H' q = some (.lst ((bs m).map V.bl)) → Q (.ref q) H') := by
  obtain ⟨f, fd, y, g1, g2, g3, g4⟩ := (gd.clo.kd _ _ kd).ex
  have hn2 : PE (X.suite a ((a, oe) :: pn)) (.Name n kn) (tVar i) := pe_var (i := i) (by show X.N[i]? = _; rw [gd.hN]; exact hN) (by show Vis X.env.scope n; rw [gd.hsc]; exact hv) hd hcd
  refine ⟨fun pins s σ H Q I h => ?_⟩
  refine wpAny_Call_Name_kw (ld_glob I ((gd.kind kx).trans hky) g1 ?_ hd2)
  refine PySem.W.callWith_K (h₀ := X.base) I.ok.mod.kin g2 (thn ((pa_cons hn2 pa_nil rfl).run kpos pins s σ H (fun vs H1 => vs = [.ref a] ∧ H1 = H) I ⟨.ref a, h.1, rfl, rfl⟩) fun us s1 ⟨vs, H1, I1, r, e1, e2⟩ => ⟨I1.kIn, ?_⟩) rfl rfl
  subst e1
  rw [e2] at I1
  cases r with
  | cons r1 rr =>
    cases rr
    rename_i u hAP
    have hu : u = Value.ref a := r1
    subst hu
    have P1 := I1.pin (a, oe) (List.mem_append_left _ List.mem_cons_self)
    have hpin : L2H.PinOk X.stack H s1 (a, oe) := ⟨P1.1, P1.2.1, fun hm => (List.mem_cons.mp (I1.stkSub a hm)).elim P1.2.2.1 P1.2.2.2.1, P1.2.2.2.2⟩
    have b := g3 s1 [.ref a] I1.kIn rfl
    have rm : L2H.RoomH 1 X.A := (L2H.roomH_of gd.room).mono hk1
    show wpAny _ _ (call (.ref f) [.ref a]) _ _ _
    refine wpAny_call (codeAny_mono (g4 _ X.stack s1 H (a, oe) m C ⟨[.ref a], []⟩ Q ⟨rm.dp, rm.un⟩ hpin hm hC hz hf I1.env0 b h.2) fun r s' hq => ?_)
    cases r with
    | error e => exact False.elim hq
    | ok fl =>
      cases fl with
      | ret u => exact I1.after hq
      | next => exact False.elim hq
      | brk => exact False.elim hq
      | cont => exact False.elim hq
def sTryK (T : Tab) (k i j xc : Nat) (bs : Nat → List Bool) (h : Rho → Option Nat) (g : CS) : CS := fun r => match h r with
  | some m => if 1 ≤ k ∧ T.es m xc = true ∧ m < T.ne ∧ i < r.length then some (.nx (((r.set i none).set j (some (.w (.d (.list ((bs m).map .bool)))))).set i none)) else none
  | none => g r
theorem okS_tryK {py ppos : Pos} {bs : Nat → List Bool} {st : Stmt} {h : Rho → Option Nat} {g : CS} (i j xc : Nat) (kd : c.T.kd = some (kx, bs)) (hkk : c.sc.names.lookup kx = some .globalImplicit) (hxc : xc < c.T.ne) (hx : c.T.en xc = x) (hkx : c.sc.names.lookup x = some .globalImplicit) (hN : c.N[i]? = some n) (hl : c.sc.names.lookup n = some .local) (hNj : c.N[j]? = some y) (hly : Loc c.sc y) (hfa : c.fa = true)
    (hR : OkR c st h) (hS : OkSs c [st] g) (hij : i ≠ j) (hdx : (x == ("__debug__" : Str)) = false := by decide) (hdn : (n == ("__debug__" : Str)) = false := by decide) (hcn : (n == ("__classdict__" : Str)) = false := by decide) (hdk : (kx == ("__debug__" : Str)) = false := by decide) (hsw : ∀ env l, swapsWith (.Call (.Name kx kp) [.Name n kn] [] kpos) (some (.Name y py)) l env = pure false := by intro _ _; rfl) :
    OkS c (.Try [st] [.ExceptHandler (some (.Name x np)) (some n) [.Assign [.Name y py] (.Call (.Name kx kp) [.Name n kn] [] kpos) ppos] pos'] [] [] pos) (sTryK c.T c.k i j xc bs h g) := fun X gd hxe r o k => by
  unfold sTryK at k
  split at k
  · rename_i m e1
    split at k
    · rename_i hc
      obtain ⟨hk1, hes, hm, hil⟩ := hc
      cases k
      obtain ⟨k1, k2, k3⟩ := gd.sk hfa
      obtain ⟨CX', x1, x2, x3⟩ := gd.tab.en xc hxc
      have x1' := x1
      rw [hx] at x1
      let ts : Addr → Value → Option Addr → TS := fun a cls d D s H => ClsN c.T X m cls d ∧ s[i]? = some (some (.ref a)) ∧ ∀ q H', H q = none → Same H H' → H' q = some (.lst ((bs m).map V.bl)) → D.nx (s.set j (some (.ref q))) H'
      refine ps_imp (ps_try_as (i := i) (c := .ref CX') (Wout := fun _ _ _ _ => False) (ts := ts) (tb := fun W D s H => tX c.T X W r m s H) k1 k2 (by rw [gd.hN]; exact gd.nd) (by rw [gd.hN]; exact hN) ((gd.kind n).trans hl) ⟨(gd.kind x).trans hkx, hdx, .inl x1⟩ takes0
        (fun W pn xe tk _ => pss_imp (pss_one (hR (X.tr pn xe) (gd.tr pn xe) W tk r m e1)) fun D s H z => z)
        (fun a oe cls d pn hz hf => ⟨fun pins s σ H D I q => ?_⟩)) fun D s H ⟨gh, He, z1, z2⟩ => ⟨gh, He, z1, fun C H' hC z3 => ⟨true, ?_, fun _ a ha => ?_, fun z => by cases z⟩⟩
      · obtain ⟨⟨hm', rfl, C, rfl, hC⟩, q1, q2⟩ := q
        have P := pss_one (ps_set (X := X.suite a ((a, oe) :: pn)) (i := j) (pos := ppos) (pos' := py) (by show X.N.Nodup; rw [gd.hN]; exact gd.nd) (by show X.N[j]? = _; rw [gd.hN]; exact hNj) (by show Loc X.env.scope y; rw [gd.hsc]; exact hly) (pe_callQ (kp := kp) (kn := kn) (kpos := kpos) gd hk1 kd hm hC hz hf hkk hN (.inl hl) hdn hcn hdk) (hsw _ _) (.inl (gd.fn hfa y)))
        exact P.run pins s σ H D I ⟨q1, q2⟩
      · obtain ⟨C', c1, c2, c3⟩ := gd.tab.en m hm
        rw [hC] at c1
        cases c1
        have := (c3 xc hxc CX' x1').1
        rw [hes] at this
        exact PySem.W.exm_ref x2.sb x2.ec.hd x2.ty this
      · refine ⟨⟨hm, rfl, C, rfl, hC⟩, List.getElem?_set_self (by rw [z3.rv.1]; exact hil), fun q H2 hq sm hl => z2 _ _ (RS.clr (RS.setl (xs := (bs m).map .bool) (z3.clr i (some (.ref a))) hq sm hl (dpa_bls _) ?_ j) i none)⟩
        rw [imms_bls]; rfl
    · cases k
  · exact ps_try_thru0 (hS X.nox (gd.wish _) rfl r o k)
end
end Nm
namespace Nm
open PySem PyProof.Rows L2

/-! ### xs != [], by the lengths alone -/
def rNeE (K : PySem.W.Frag) : R2 := fun x y H Q => ∃ l b xs, x = .ref l ∧ y = .ref b ∧ SqL K H l xs ∧ SqL K H b [] ∧ Q (.bl (!xs.isEmpty)) H
theorem op_neE {X : Cx} {k : Nat} (hu : X.A.units + 200 + 16 * k < cLine) : OpR X (compareOp .NotEq) (rNeE X.K) := by
  intro pins s z H x y v u Q I rx ry h
  obtain ⟨l, b, xs, rfl, rfl, hl, hb, q⟩ := h
  cases xs with
  | nil =>
    refine op_neG hu pins s z H _ _ v u Q I rx ry ⟨.list [], .list [], Dp.lst hl .nil, Dp.lst hb .nil, ?_, q⟩
    have e : (PyData.canLayAll0 [] && PyData.canLayAll0 [] && decide (min (PyData.depth (.list [])) (PyData.depth (.list [])) ≤ 199 + 16 * k)) = true := by
      have : PyData.depth (.list []) ≤ 199 := by decide
      simp only [PyData.canLayAll0, Bool.true_and, decide_eq_true_eq]
      omega
    exact e
  | cons a r =>
    obtain ⟨its, r1, pl, _⟩ := I.list hl
    obtain ⟨its2, r2, pl2, _⟩ := I.list hb
    obtain rfl : v = Value.ref l := rx
    obtain rfl : u = Value.ref b := ry
    have e1 := r1.length
    have e2 := r2.length
    exact SeqAt.RcNeAt.lists_lengths pl.isList pl2.isList (by simp at e1 e2 ⊢; omega) (by omega) _ _ _ _ ⟨.bl _, H, I, rfl, q⟩
theorem dpa_emp {K : PySem.W.Frag} {H : Hp} : ∀ (ds : List PyData) (vs : List V), DpAll K H vs ds → vs.isEmpty = ds.isEmpty
  | [], _, h => by cases h; rfl
  | d :: ds, _, h => by cases h; rfl
section
variable {c : C0} {x : Str} {px p2 pos : Pos}
def qNeE (i : Nat) : Rho → Option Bool := fun r => match rd r i with
  | some (.d (.list xs)) => some (!xs.isEmpty)
  | _ => none
theorem okT_neE (i : Nat) (hN : c.N[i]? = some x) (hv : Vis c.sc x) (hd : (x == ("__debug__" : Str)) = false := by decide) (hcd : (x == ("__classdict__" : Str)) = false := by decide) : OkT c (.Compare (.Name x px) [.NotEq] [.List [] p2] pos) (qNeE i) := fun X gd r b h => by
  unfold qNeE at h
  split at h
  · rename_i xs e1
    cases h
    refine pt_imp (pt_cmpR (op_neE (room200 gd.room)) (pe_var (i := i) (by rw [gd.hN]; exact hN) (by rw [gd.hsc]; exact hv) hd hcd) (pe_lst pa_nil) rfl) fun s H Q q => ?_
    obtain ⟨v, g1, g2⟩ := q.1.2.1 i _ e1
    refine ⟨v, g1, by decide, fun p hp => ?_⟩
    have sn := same_new hp (.lst [])
    cases g2 with
    | lst hs ha =>
      refine ⟨_, p, _, rfl, rfl, sn.seq hs, SqL.of upd_same, _, rfl, ?_⟩
      rw [dpa_emp _ _ ha]
      exact q.2 _ sn
  · cases h
end
/-! ### data known under the mask -/
def OkD (c : C0) (e : Expr) (f : Rho → Option PyData) : Prop := ∀ X, Gd c X → ∀ r d, f r = some d → PE X e (fun s H Q => ∃ gh He O, RSO c.T X.K X.mg gh He O H s r ∧ ∀ v H', Same H H' → Dp X.K (mask H' O) v d → Q v H')
section
variable {c : C0} {x y z : Str} {e : Expr} {px py pz p1 p2 p3 p4 pos apos cpos : Pos}
def dVar (i : Nat) : Rho → Option PyData := fun r => match r[i]? with
  | some (some (.w (.d d))) => some d
  | _ => none
theorem okD_var (i : Nat) (hN : c.N[i]? = some x) (hv : Vis c.sc x) (hd : (x == ("__debug__" : Str)) = false := by decide) (hcd : (x == ("__classdict__" : Str)) = false := by decide) : OkD c (.Name x px) (dVar i) := fun X gd r d h => by
  unfold dVar at h
  split at h
  · rename_i d' e1
    cases h
    refine pe_imp (pe_var (i := i) (by rw [gd.hN]; exact hN) (by rw [gd.hsc]; exact hv) hd hcd) fun s H Q ⟨gh, He, O, q1, q2⟩ => ?_
    obtain ⟨v, g1, g2⟩ := q1.wv i _ e1
    exact ⟨v, g1, q2 v H (Same.refl H) g2⟩
  · cases h
/-- x[n], x a tuple -/
def dIx (i : Nat) (n : Int) : Rho → Option PyData := fun r => match r[i]? with
  | some (some (.w (.d (.tuple ds)))) => atI ds n
  | _ => none
theorem okD_ix {j} {n : Int} (i : Nat) (hN : c.N[i]? = some x) (hv : Vis c.sc x) (hs : PlainIx (.Constant (.int n) j p2) := by intro _ _; rfl) (hd : (x == ("__debug__" : Str)) = false := by decide) (hcd : (x == ("__classdict__" : Str)) = false := by decide) : OkD c (.Subscript (.Name x px) (.Constant (.int n) j p2) pos) (dIx i n) := fun X gd r d h => by
  unfold dIx at h
  split at h
  · rename_i ds e1
    refine pe_imp (pe_ix ix_seq (pe_var (i := i) (by rw [gd.hN]; exact hN) (by rw [gd.hsc]; exact hv) hd hcd) pe_int hs) fun s H Q ⟨gh, He, O, q1, q2⟩ => ?_
    obtain ⟨v, g1, g2⟩ := q1.wv i _ e1
    cases g2 with
    | tup hs ha =>
      obtain ⟨u, h1, h2⟩ := dpa_atI ha h
      exact ⟨_, g1, .inr (.inl ⟨_, _, n, u, rfl, rfl, sqt_mono mask_sub hs, h1, q2 u H (Same.refl H) h2⟩)⟩
  · cases h
/-- xs.append(e), xs one's own, e known under the mask -/
def sAppD (i : Nat) (f : Rho → Option PyData) : CS := fun r => match r[i]? with
  | some (some (.own xs)) => match f r with
    | some d => if xs.length < 100000 then some (.nx (r.set i (some (.own (xs ++ [d]))))) else none
    | _ => none
  | _ => none
theorem okS_appD {f : Rho → Option PyData} (i : Nat) (hN : c.N[i]? = some x) (hv : Vis c.sc x) (he : OkD c e f) (hs : ∀ env, starEach [e] env = [(false, eval e env)] := by intro _; rfl)
    (hfew : ∀ env, ((backTo cpos (starEach [e] env)).all (fun x => !x.1) && (backToKw cpos (keywordEach [] env)).all (fun x => x.1.isSome) && decide ([e].length + ([] : List Keyword).length + (if ([] : List Keyword).isEmpty then 0 else 1) < 30)) = true := by intro _; rfl)
    (hline : (apos.endLine == cpos.line) = true := by rfl) (hd : (x == ("__debug__" : Str)) = false := by decide) (hcd : (x == ("__classdict__" : Str)) = false := by decide) :
    OkS c (.Expr (.Call (.Attribute (.Name x px) "append" apos) [e] [] cpos) pos) (sAppD i f) := fun X gd hx r o k => by
  unfold sAppD at k
  split at k
  · rename_i xs e1
    split at k
    · rename_i d e2
      split at k
      · rename_i hc
        cases k
        refine ps_imp (ps_expr (pe_bm PySem.F.plainAttrs_list PySem.F.slot_list_append PySem.F.type_list_append mt_append (pe_var (i := i) (by rw [gd.hN]; exact hN) (by rw [gd.hsc]; exact hv) hd hcd) (pa_cons (he X gd r _ e2) pa_nil (hs X.env)) rfl (hfew X.env) hline (hs X.env) rfl) rfl) fun D s H ⟨gh, He, ⟨O, q1⟩, q2⟩ => ?_
        obtain ⟨a, vs, h1, h2, h3, h4⟩ := q1.ov i xs e1
        refine ⟨_, h1, .inl ⟨rfl, _, SqL.of h3⟩, gh, He, O, q1, fun v H1 s1 hv => ?_⟩
        have q3 := q1.step s1
        obtain ⟨a', vs', h1', h2', h3', h4'⟩ := q3.ov i xs e1
        rw [h1] at h1'
        cases h1'
        refine ⟨a, vs', v, rfl, rfl, h3', by rw [dpa_len _ _ h4']; exact Nat.lt_of_lt_of_le hc (by decide), ?_⟩
        exact q2 _ _ ⟨O, q3.mut e1 h1 h2 (dpa_app _ _ _ _ h4' (.cons hv .nil))⟩
      · cases k
    · cases k
  · cases k
/-- xs.extend([e, e2]) -/
def sExtD (i : Nat) (f g : Rho → Option PyData) : CS := fun r => match r[i]? with
  | some (some (.own xs)) => match f r with
    | some d => match g r with
      | some d2 => if xs.length + 2 ≤ 100000 then some (.nx (r.set i (some (.own (xs ++ [d, d2]))))) else none
      | _ => none
    | _ => none
  | _ => none
theorem okS_extD {e2 : Expr} {f g : Rho → Option PyData} (i : Nat) (hN : c.N[i]? = some x) (hv : Vis c.sc x) (he : OkD c e f) (he2 : OkD c e2 g) (hs : ∀ env, starEach [.List [e, e2] p2] env = [(false, eval (.List [e, e2] p2) env)] := by intro _; rfl)
    (hs1 : ∀ env, starEach [e, e2] env = (false, eval e env) :: starEach [e2] env := by intro _; rfl) (hs2 : ∀ env, starEach [e2] env = [(false, eval e2 env)] := by intro _; rfl)
    (hfew : ∀ env, ((backTo cpos (starEach [.List [e, e2] p2] env)).all (fun x => !x.1) && (backToKw cpos (keywordEach [] env)).all (fun x => x.1.isSome) && decide ([Expr.List [e, e2] p2].length + ([] : List Keyword).length + (if ([] : List Keyword).isEmpty then 0 else 1) < 30)) = true := by intro _; rfl)
    (hline : (apos.endLine == cpos.line) = true := by rfl) (hd : (x == ("__debug__" : Str)) = false := by decide) (hcd : (x == ("__classdict__" : Str)) = false := by decide) :
    OkS c (.Expr (.Call (.Attribute (.Name x px) "extend" apos) [.List [e, e2] p2] [] cpos) pos) (sExtD i f g) := fun X gd hx r o k => by
  unfold sExtD at k
  split at k
  · rename_i xs e1
    split at k
    · rename_i d ed
      split at k
      · rename_i d2 ed2
        split at k
        · rename_i hc
          cases k
          refine ps_imp (ps_expr (pe_bm PySem.F.plainAttrs_list PySem.F.slot_list_extend PySem.F.type_list_extend mt_extend (pe_var (i := i) (by rw [gd.hN]; exact hN) (by rw [gd.hsc]; exact hv) hd hcd) (pa_cons (pe_lst (pa_cons (he X gd r _ ed) (pa_cons (he2 X gd r _ ed2) pa_nil (hs2 X.env)) (hs1 X.env))) pa_nil (hs X.env)) rfl (hfew X.env) hline (hs X.env) rfl) rfl) fun D s H ⟨gh, He, ⟨O, q1⟩, q2⟩ => ?_
          obtain ⟨a, vs, h1, h2, h3, h4⟩ := q1.ov i xs e1
          refine ⟨_, h1, .inl ⟨rfl, _, SqL.of h3⟩, gh, He, O, q1, fun v H1 s1 hv => ⟨gh, He, O, q1.step s1, fun v2 H2 s2 hv2 => ⟨sz (by simp), fun p hp => ?_⟩⟩⟩
          have sn := same_new hp (.lst [v, v2])
          have q3 := q1.step (s1.trans (s2.trans sn))
          have q3' := q1.step s1
          have q3'' := q1.step (s1.trans s2)
          obtain ⟨a', vs', h1', h2', h3', h4'⟩ := q3.ov i xs e1
          rw [h1] at h1'
          cases h1'
          have m1 := mask_mono (O := O) (s2.trans sn) fun a z => (q3'.ow a z).2
          have m2 := mask_mono (O := O) sn fun a z => (q3''.ow a z).2
          refine ⟨a, p, vs', [v, v2], rfl, rfl, h3', upd_same, by rw [dpa_len _ _ h4']; exact sz hc, ?_⟩
          exact q2 _ _ ⟨O, q3.mut e1 h1 h2 (dpa_app _ _ _ _ h4' (.cons (dp_mono m1 _ _ hv) (.cons (dp_mono m2 _ _ hv2) .nil)))⟩
        · cases k
      · cases k
    · cases k
  · cases k
/-- a new list of a thing known under the mask, one's own from now on -/
theorem RSO.own1 {T : Tab} {K : PySem.W.Frag} {mg : Str → Option Value} {gh : Hp → Prop} {He H : Hp} {s : L2.St} {r : Rho} {O : Addr → Prop} (h : RSO T K mg gh He O H s r) {p : Addr} {v : V} {d : PyData} (hp : H p = none) (hv : Dp K (mask H O) v d) (i : Nat) :
    RS T K mg gh He (upd H p (.lst [v])) (s.set i (some (.ref p))) (r.set i (some (.own [d]))) := by
  have e := same_new hp (.lst [v])
  have np : ¬ O p := fun z => by
    obtain ⟨_, ys, q, _⟩ := h.ow p z
    rw [hp] at q; cases q
  have ow' : ∀ a, (O a ∨ a = p) → He a = none ∧ ∃ o, upd H p (.lst [v]) a = some o ∧ MutO o := fun a z => by
    rcases z with z | rfl
    · obtain ⟨h1, xs, h2, h3⟩ := h.ow a z
      exact ⟨h1, xs, e.at h2 (mut_nt h3), h3⟩
    · exact ⟨h.ex.free hp, .lst [v], upd_same, trivial⟩
  have sub : Same (mask H O) (mask (upd H p (.lst [v])) (fun a => O a ∨ a = p)) := ⟨fun b o q n => by
    obtain ⟨q1, q2⟩ := mask_some q
    rw [mask_out (fun z => z.elim q1 (fun z => by rw [z, hp] at q2; cases q2))]
    exact e.to b o q2 n, fun b q => by
    by_cases z : O b
    · exact mask_in z
    · rw [mask_out z]
      by_cases z2 : b = p
      · rw [z2]; exact hp
      · rw [mask_out (fun y => y.elim z z2)] at q
        exact e.no b q, mask_tab e.tb fun a z => (ow' a z).2⟩
  refine ⟨fun a => O a ∨ a = p, ⟨by rw [List.length_set, List.length_set]; exact h.len, h.ex.trans e, ow', fun j x q => ?_, fun j y q qo => ?_, fun j k y z a e1 e2 o1 o2 e3 e4 => ?_, h.gm, h.gm _ _ sub h.gp, h.tb⟩⟩
  · rcases get_set q with ⟨rfl, hl, e1⟩ | ⟨hn, e1⟩
    · cases e1
    · rw [List.getElem?_set_ne (Ne.symm hn)]
      obtain ⟨v, h1, h2⟩ := h.wv j _ e1
      exact ⟨v, h1, rw_mono sub h2⟩
  · rcases get_set q with ⟨rfl, hl, e1⟩ | ⟨hn, e1⟩
    · cases e1
      exact ⟨p, .lst [v], List.getElem?_set_self (by rw [h.len]; exact hl), .inr rfl, upd_same, .cons (dp_mono sub _ _ hv) .nil⟩
    · rw [List.getElem?_set_ne (Ne.symm hn)]
      obtain ⟨a, ws, h1, h2, h3, h4⟩ := h.og j y e1 qo
      exact ⟨a, ws, h1, .inl h2, e.at h3 (mut_nt (ownH_mut h4)), ownH_mono sub h4⟩
  · have neo : ∀ (m : Nat) (z : Sl), r[m]? = some (some z) → z.isOwn = true → s[m]? ≠ some (some (.ref p)) := fun m z q1 qo q2 => by
      obtain ⟨a, ws, h1, h2, h3, h4⟩ := h.og m z q1 qo
      rw [h1] at q2
      cases q2
      exact np h2
    rcases get_set e1 with ⟨rfl, hl, e5⟩ | ⟨hn, e5⟩
    · rcases get_set e2 with ⟨rfl, hl2, e6⟩ | ⟨hn2, e6⟩
      · rfl
      · rw [List.getElem?_set_self (by rw [h.len]; exact hl)] at e3
        cases e3
        rw [List.getElem?_set_ne (Ne.symm hn2)] at e4
        exact absurd e4 (neo _ _ e6 o2)
    · rw [List.getElem?_set_ne (Ne.symm hn)] at e3
      rcases get_set e2 with ⟨rfl, hl2, e6⟩ | ⟨hn2, e6⟩
      · rw [List.getElem?_set_self (by rw [h.len]; exact hl2)] at e4
        cases e4
        exact absurd e3 (neo _ _ e5 o1)
      · rw [List.getElem?_set_ne (Ne.symm hn2)] at e4
        exact h.inj j k y z a e5 e6 o1 o2 e3 e4
variable {a b d : Expr} {gb gc : Rho → Option Sl}
/-- x, y, z = [e], b, d -/
def sSt3D (i j l : Nat) (f : Rho → Option PyData) (gb gc : Rho → Option Sl) : CS := fun r => match f r with
  | some t => match gb r with
    | some w => match gc r with
      | some u => if slOk w (r.set i (some (.own [t]))) && slOk u ((r.set i (some (.own [t]))).set j (some w)) then some (.nx (((r.set i (some (.own [t]))).set j (some w)).set l (some u))) else none
      | none => none
    | none => none
  | none => none
theorem okS_st3D {k1 k2} {f : Rho → Option PyData} (i j l : Nat) (hN : c.N[i]? = some x) (hl : c.sc.names.lookup x = some .local) (hN2 : c.N[j]? = some y) (hl2 : c.sc.names.lookup y = some .local) (hN3 : c.N[l]? = some z) (hl3 : c.sc.names.lookup z = some .local) (hij : i ≠ j) (hil : i ≠ l) (hjl : j ≠ l) (ha : OkD c a f) (hb : OkX c b gb) (hd : OkX c d gc)
    (hw : ∀ env : Env, env.scope = c.sc → swappedStores [.Tuple [.Name x px, .Name y py, .Name z pz] k1 p1] (.Tuple [.List [a] p3, b, d] k2 p2) env = pure (some [x, y, z]) := by intro env h; cases env; simp only at h; subst h; rfl)
    (hs : ∀ env, starEach [.List [a] p3, b, d] env = (false, eval (.List [a] p3) env) :: starEach [b, d] env := by intro _; rfl) (hs2 : ∀ env, starEach [b, d] env = (false, eval b env) :: starEach [d] env := by intro _; rfl) (hs3 : ∀ env, starEach [d] env = [(false, eval d env)] := by intro _; rfl)
    (hs4 : ∀ env, starEach [a] env = [(false, eval a env)] := by intro _; rfl) :
    OkS c (.Assign [.Tuple [.Name x px, .Name y py, .Name z pz] k1 p1] (.Tuple [.List [a] p3, b, d] k2 p2) pos) (sSt3D i j l f gb gc) := fun X gd hx r o k => by
  unfold sSt3D at k
  split at k
  · rename_i t e1
    split at k
    · rename_i w e2
      split at k
      · rename_i u e3
        split at k
        · rename_i hc
          have hc := Bool.and_eq_true_iff.mp hc
          cases k
          obtain ⟨tb, h3, h4⟩ := hb X gd r w e2
          obtain ⟨td, h5, h6⟩ := hd X gd r u e3
          refine ps_imp (ps_par3 (i := i) (j := j) (l := l) gd.calm (by rw [gd.hN]; exact gd.nd) (by rw [gd.hN]; exact hN) (by rw [gd.hN]; exact hN2) (by rw [gd.hN]; exact hN3) hij hil hjl (by rw [gd.hsc]; exact hl) (by rw [gd.hsc]; exact hl2) (by rw [gd.hsc]; exact hl3)
            (pa_cons (pe_lst (pa_cons (ha X gd r t e1) pa_nil (hs4 X.env))) (pa_cons h3 (pa_cons h5 pa_nil (hs3 X.env)) (hs2 X.env)) (hs X.env)) (hw X.env gd.hsc) rfl) fun D s H ⟨gh, He, ⟨O, q1⟩, q2⟩ => ?_
          refine ⟨gh, He, O, q1, fun v H1 s1 hv => ⟨sz (by simp), fun p hp => ?_⟩⟩
          have sn := same_new hp (.lst [v])
          have q3 := (q1.step s1).own1 hp hv i
          refine h4 s _ _ (rv_mono (s1.trans sn) q1.rv) fun v2 H2 s2 k2 => h6 s H2 _ (rv_mono (s1.trans (sn.trans s2)) q1.rv) fun v3 H3 s3 k3 => ⟨.ref p, v2, v3, rfl, q2 _ _ ?_⟩
          exact k3 gh He _ _ (k2 gh He _ _ q3 hc.1 j) hc.2 l
        · cases k
      · cases k
    · cases k
  · cases k
end
/-! ### the lambdas of a def -/
def lamsE : Nat → Expr → List (Arguments × Expr × Scope)
  | 0, _ => []
  | _ + 1, .Lambda p b s _ => [(p, b, s)]
  | n + 1, .Call f as _ _ => lamsE n f ++ as.flatMap (lamsE n)
  | n + 1, .List es _ => es.flatMap (lamsE n)
  | n + 1, .Tuple es _ _ => es.flatMap (lamsE n)
  | n + 1, .BinOp a _ b _ => lamsE n a ++ lamsE n b
  | n + 1, .UnaryOp _ a _ => lamsE n a
  | n + 1, .BoolOp _ es _ => es.flatMap (lamsE n)
  | _ + 1, _ => []
def lamsS : Nat → Stmt → List (Arguments × Expr × Scope)
  | 0, _ => []
  | n + 1, .Assign _ e _ => lamsE n e
  | n + 1, .Return (some e) _ => lamsE n e
  | n + 1, .Expr e _ => lamsE n e
  | n + 1, .If e a b _ => lamsE n e ++ (a ++ b).flatMap (lamsS n)
  | n + 1, .For _ e a _ _ => lamsE n e ++ a.flatMap (lamsS n)
  | _ + 1, _ => []
def lamAt (q : Str) (st : Stmt) (j : Nat) : Option LamD := (((defBody st).flatMap (lamsS 12))[j]?).map fun p => ⟨q ++ ".<locals>." ++ "<lambda>", p.1, p.2.1, p.2.2⟩
def lamNo : LamD := ⟨"", ⟨[], [], none, [], [], none, []⟩, .Constant .none default default, { kind := .function, names := [], isGenerator := false, isCoroutine := false }⟩
end Nm
namespace Nm
open PySem L2 PySem.Spec PyProof.Rows
/-! ### sorted(d), up to five thousand texts -/
theorem sort_keys {X : Cx} (calm : X.calm = true) : CallR X (.builtin "sorted") (fun args H Q => ∃ (at_ : Addr) (ents : List (Key × V)) (names : List Str), args = [.ref at_] ∧ Rd H at_ (.dK ents) ∧ ents.map (·.1) = names.map Sum.inr ∧ names.length ≤ 5000 ∧ ∀ out p, out.Perm names → sortedS out = true → H p = none → Q (.ref p) (upd H p (.lst (out.map V.str)))) := by
  rintro pins s z H args us Q I r ⟨at_, ents, names, rfl, hd, hn, hl, q⟩
  obtain ⟨u, rfl, ru⟩ := vals1 r
  cases ru
  obtain ⟨_, low, kvs, rel, dict⟩ := dk_rd I.hok hd
  obtain ⟨ep, hat⟩ := dict.dictAt
  have keys : kvs.map (·.1) = names.map Sum.inr := rel.keys.symm.trans hn
  have len : kvs.length = names.length := by simpa using congrArg List.length keys
  have fits : names.length ≤ sizeLine := Nat.le_trans hl (by decide)
  refine Calls.call_function_entry PyProof.Rows.kind_sorted PyProof.Rows.plain_sorted PyProof.Rows.entry_sorted (PyProof.Rows.args_sorted1 _) ?_
  unfold Builtin.«sorted»
  refine wpAny_bind (m := checkCount "sorted" 1 1 _) (wpAny_pure (wpAny_bind (PySem.W.kdu_collect (A := X.A.in1) (PySem.W.kdl_dict (knd := mixKind X.prog X.w) (kvs := kvs) (ep := ep) low) (I.ok.hd calm) hat (len ▸ fits) fun h1 tk got kept here => ?_)))
  have glen : got.toList.length = names.length := by simpa [len] using here.1
  have texts : StrsAre got.toList names := strs_at glen fun j v e => by
    obtain ⟨key, val, g1, g2⟩ := here.2 j v (by simpa using e)
    have g3 : (names.map (Sum.inr (α := Int)))[j]? = some key := by rw [← keys, List.getElem?_map, g1]; rfl
    rw [List.getElem?_map] at g3
    obtain ⟨y, g4, rfl⟩ := Option.map_eq_some_iff.mp g3
    obtain ⟨t, ht⟩ := Value.isStrOf_shape (x := y) (v := v) g2
    exact ⟨y, t, g4, ht⟩
  have I1 : Inv X pins z H { s with heap := h1, toks := tk } := I.kept kept
  have made : (h1.push (seqObj "list" got.toList.toArray 0)).get? h1.objs.size = some (seqObj "list" got.toList.toArray 0) := Heap.get?_push_size _ rfl
  refine wpAny_bind (wpAny_newList ?_ (by rw [glen]; exact fits))
  show wpAny _ _ _ _ _ { s with heap := h1.push (seqObj "list" got.toList.toArray 0), toks := tk }
  refine wpAny_bind (wpAny_holding (wpAny_call_entry PyProof.Rows.slot_list_sort ⟨_, made, rfl⟩ PyProof.Rows.entry_list_sort (PyProof.Rows.list_sort_treeKAny strKind_oneLt made texts.keysOf (fun a b rest e => keyKind_strs (e ▸ texts)) (by rw [glen]; exact fits) fun st perm srt => ⟨_, rfl, ?_⟩) (PyProof.Rows.args_list_sort _)))
  obtain ⟨out, o1, o2, o3⟩ := sorted_out_str texts perm srt
  obtain ⟨e2, now⟩ := PyProof.Rows.sortedHeap_at (vs := got.toList) (out := (arrOf st).map (·.2)) made
  refine wpAny_pure ⟨_, rfl, .ref h1.objs.size, upd H h1.objs.size (.lst (out.map V.str)), I1.laid (t' := tk) (fun b o old => ?_) (Nat.le_refl _) (show ObjOk X.prog X.w _ _ _ (.lst (out.map V.str)) from ⟨by rw [List.length_map, o2.length_eq]; exact fits, ((arrOf st).map (·.2)).toList, e2, vals_of_strs o1, by rw [Array.toArray_toList]; exact now⟩), rfl, q out _ o2 o3 (I1.hok.fresh (Nat.le_refl _))⟩
  have lt : b < h1.objs.size := Heap.lt_size old
  rw [PyProof.Rows.sortedHeap_old (Nat.ne_of_lt lt) (by show b < (h1.push _).objs.size; rw [Heap.size_push]; exact Nat.lt_succ_of_lt lt)]
  exact Heap.get?_push_of_some _ old
/-- sorted(d) -/
def lSrtB (f : Rho → Option W) : Rho → Option (List PyData) := fun r => match f r with
  | some (.m kvs) => if kvs.length ≤ 5000 then some ((srtS (kvs.map (·.1))).map .str) else none
  | _ => none
theorem ok_srtB {c : C0} {e : Expr} {f : Rho → Option W} {p pos : Pos} (hb : ("sorted" : Str) ∈ c.T.bl) (hk : c.sc.names.lookup ("sorted" : Str) = some .globalImplicit) (ha : OkE c e f) (hs : ∀ env, starEach [e] env = [(false, eval e env)] := by intro _; rfl) :
    OkL c (.Call (.Name "sorted" p) [e] [] pos) (lSrtB f) := fun X gd r w h => by
  unfold lSrtB at h
  split at h
  · rename_i kvs e1
    split at h
    · rename_i hc
      cases h
      refine pe_imp (pe_callB (sort_keys gd.calm) ((gd.kind _).trans hk) (gd.tab.bl _ hb) Nm.boot_sorted (pa_cons (ha X gd r _ e1) pa_nil (hs X.env)) (he := hs X.env)) fun s H Q q => ⟨q.1, fun v H1 s1 hv => ?_⟩
      obtain ⟨a, kws, rfl, h1, h2⟩ := hv
      refine ⟨a, kws, kvs.map (·.1), rfl, .inl h1, by rw [h2.1, List.map_map]; rfl, by simpa using hc, fun ys p0 g1 g2 hp0 => ?_⟩
      have em : srtS (kvs.map (·.1)) = ys := srtS_of (sortedS_pw _ g2) g1
      rw [em] at q
      exact q.2 p0 _ _ (s1.free hp0) (s1.trans (same_new hp0 _)) upd_same (dpa_strs _)
    · cases h
  · cases h
/-! ### list(d) -/
def lOfD (f : Rho → Option W) : Rho → Option (List PyData) := fun r => match f r with
  | some (.m kvs) => some (kvs.map fun p => .str p.1)
  | _ => none
theorem ok_lofD {c : C0} {e : Expr} {f : Rho → Option W} {p pos : Pos} (hb : ("list" : Str) ∈ c.T.bl) (hk : c.sc.names.lookup ("list" : Str) = some .globalImplicit) (ha : OkE c e f) (hs : ∀ env, starEach [e] env = [(false, eval e env)] := by intro _; rfl) :
    OkL c (.Call (.Name "list" p) [e] [] pos) (lOfD f) := fun X gd r w h => by
  unfold lOfD at h
  split at h
  · rename_i kvs e1
    cases h
    refine pe_imp (pe_callTy (call_listD gd.calm) ((gd.kind _).trans hk) (gd.tab.bl _ hb) boot_list (pa_cons (ha X gd r _ e1) pa_nil (hs X.env)) (he := hs X.env)) fun s H Q q => ⟨q.1, fun v H1 s1 hv => ?_⟩
    obtain ⟨a, kws, rfl, h1, h2⟩ := hv
    refine ⟨a, kws, rfl, .inl h1, fun l hl => q.2 l _ _ (s1.free hl) (s1.trans (same_new hl _)) upd_same ?_⟩
    have e : (kws.map fun kv => kV kv.1) = (kvs.map (·.1)).map V.str := by
      have := congrArg (List.map kV) h2.1
      rw [List.map_map, List.map_map] at this
      rw [List.map_map]
      exact this
    rw [e]
    have := dpa_strs (K := X.K) (H := upd H1 l (.lst ((kvs.map (·.1)).map V.str))) (kvs.map (·.1))
    rw [List.map_map (g := PyData.str)] at this
    exact this
  · cases h
/-! ### d != {} -/
def cNeD0 (f : Rho → Option W) : Rho → Option W := fun r => match f r with
  | some (.m kvs) => some (.d (.bool (!kvs.isEmpty)))
  | _ => none
theorem op_neD0 {X : Cx} (hu : X.A.units < cLine) : OpR X (compareOp .NotEq) (fun x y H Q => ∃ a b ks, x = .ref a ∧ y = .ref b ∧ H a = some (.dK ks) ∧ H b = some (.dK []) ∧ Q (.bl (!ks.isEmpty)) H) := by
  rintro pins s z H x y v u Q I rx ry ⟨a, b, ks, rfl, rfl, ea, eb, q⟩
  cases rx
  cases ry
  obtain ⟨_, lo, va, ra, da⟩ := (show ObjOk X.prog X.w H s.heap a (.dK ks) from I.hok a _ ea)
  obtain ⟨_, lb, vb, rb, db⟩ := (show ObjOk X.prog X.w H s.heap b (.dK []) from I.hok b _ eb)
  cases rb
  have e : (va.length == ([] : List (Key × Value)).length) = ks.isEmpty := by
    rw [← ra.length]
    cases ks <;> rfl
  refine PySem.W.keq_ne (knd := mixKind X.prog X.w) (r := true) lo lb da db hu (fun h => ?_) ?_
  · have : va = [] := List.eq_nil_of_length_eq_zero h
    subst this
    exact .nil
  · rw [Bool.and_true, e]
    exact ⟨.bl _, H, I, rfl, q⟩
theorem okT_neD0 {c : C0} {a : Expr} {f : Rho → Option W} {pos p2 : Pos} (ha : OkE c a f) (hm : behindInMarks .NotEq (.Dict [] [] p2) = false := by rfl) : OkT c (.Compare a [.NotEq] [.Dict [] [] p2] pos) (cT (cNeD0 f)) := fun X gd r k h => by
  have h := cT_some h
  unfold cNeD0 at h
  split at h
  · rename_i kvs e1
    cases h
    refine pt_imp (pt_cmpR (op_neD0 (by have := room200 gd.room; omega)) (ha X gd r _ e1) pe_dnewK hm) fun s H Q q => ⟨q.1, fun v H1 s1 hv => ?_⟩
    obtain ⟨a, kws, rfl, h1, h2⟩ := hv
    intro p hp
    refine ⟨a, p, kws, rfl, rfl, ?_, upd_same, ⟨_, rfl, ?_⟩⟩
    · rw [upd_ne (ne_of_none h1 hp)]; exact h1
    · have e : kws.isEmpty = kvs.isEmpty := by
        have := congrArg List.length h2.1
        rw [List.length_map, List.length_map] at this
        cases kws <;> cases kvs <;> simp at this ⊢
      rw [e]
      exact q.2 _ (s1.trans (same_new hp _))
  · cases h
/-! ### min(texts) -/
def minS : List Str → Str
  | [] => ""
  | [x] => x
  | x :: y :: r => if ltCps (minS (y :: r)).cps.toList x.cps.toList then minS (y :: r) else x
theorem minS_mem : ∀ l : List Str, l ≠ [] → minS l ∈ l
  | [], h => absurd rfl h
  | [x], _ => by simp [minS]
  | x :: y :: r, _ => by
    have ih := minS_mem (y :: r) (by simp)
    unfold minS
    split
    · exact List.mem_cons_of_mem _ ih
    · exact List.mem_cons_self
theorem minS_le : ∀ (l : List Str) (a : Str), a ∈ l → leS (minS l) a
  | [x], a, h => by
    rw [List.mem_singleton.mp h]
    simp [minS, leS, ltCps_irr]
  | x :: y :: r, a, h => by
    have ih := minS_le (y :: r)
    unfold minS
    split
    · rename_i q
      rcases List.mem_cons.mp h with rfl | h
      · exact ltS_le q
      · exact ih a h
    · rename_i q
      rcases List.mem_cons.mp h with rfl | h
      · simp [leS, ltCps_irr]
      · exact leS_trans (by simpa [leS] using q) (ih a h)
theorem ltCps_lt : ∀ a b : List Nat, ltCps a b = decide (a < b)
  | [], [] => by simp [ltCps]
  | [], _ :: _ => by simp [ltCps]
  | _ :: _, [] => by simp [ltCps]
  | x :: r, y :: t => by
    have h : (x :: r < y :: t) ↔ (x < y ∨ x = y ∧ r < t) := List.cons_lt_cons_iff
    rw [ltCps, ltCps_lt r t]
    rw [Bool.eq_iff_iff]
    simp only [Bool.or_eq_true, Bool.and_eq_true, decide_eq_true_eq, beq_iff_eq, h]
theorem best_le (f : Nat → Str) : ∀ k : Nat, PySem.argBest (fun i j => ltCps (f i).cps.toList (f j).cps.toList) k ≤ k ∧ ∀ j, j ≤ k → leS (f (PySem.argBest (fun i j => ltCps (f i).cps.toList (f j).cps.toList) k)) (f j)
  | 0 => ⟨Nat.le_refl _, fun j hj => by
    obtain rfl : j = 0 := by omega
    simp [PySem.argBest, leS, ltCps_irr]⟩
  | k + 1 => by
    obtain ⟨h1, h2⟩ := best_le f k
    unfold PySem.argBest
    split
    · rename_i q
      refine ⟨Nat.le_refl _, fun j hj => ?_⟩
      by_cases e : j = k + 1
      · subst e; simp [leS, ltCps_irr]
      · exact leS_trans (ltS_le q) (h2 j (by omega))
    · rename_i q
      refine ⟨by omega, fun j hj => ?_⟩
      by_cases e : j = k + 1
      · subst e; simpa [leS] using q
      · exact h2 j (by omega)
theorem cmp_texts {prog : Program} {w : World} {A : Around} {P : Nat → Value → Prop} (f : Nat → Str) (hf : ∀ i v, P i v → ∃ t, v = .str (f i) t) : PySem.CmpOf prog w A .Lt P (fun i j => ltCps (f i).cps.toList (f j).cps.toList) := fun i j vi vj s Q E hi hj h => by
  obtain ⟨t, rfl⟩ := hf i vi hi
  obtain ⟨u, rfl⟩ := hf j vj hj
  refine PySem.P.lt_str ?_
  have h : Q (.bool (ltCps (f i).cps.toList (f j).cps.toList)) s := h
  rw [ltCps_lt] at h
  exact h
theorem call_minS {X : Cx} (calm : X.calm = true) : CallR X (.builtin "min") (fun args H Q => ∃ (a : Addr) (ks : List Str), args = [.ref a] ∧ SqL X.K H a (ks.map V.str) ∧ ks ≠ [] ∧ Q (.str (minS ks)) H) := by
  rintro pins s z H args us Q I r ⟨a, ks, rfl, hs, hne, q⟩
  obtain ⟨u, rfl, ru⟩ := vals1 r
  cases ru
  obtain ⟨its, rv, pl, hl⟩ := I.list hs
  have il : s.heap.IsList a its.toArray := pl.isList
  have hlt : a < s.heap.objs.size := by obtain ⟨_, e, _⟩ := il; exact Heap.lt_size e
  have hlen : its.length = ks.length := by rw [← rv.length, List.length_map]
  have pos : 0 < ks.length := List.length_pos_iff.mpr hne
  refine PySem.call_min_walk (wpAny_pyIter_list il ?_)
  have at_ : ∀ (i : Nat) (v : Value), its.toArray[i]? = some v → ∃ t, v = .str (ks.getD i "") t := fun i v hv => by
    rw [List.getElem?_toArray] at hv
    have hi : i < ks.length := by rw [← hlen]; exact (List.getElem?_eq_some_iff.mp hv).1
    obtain ⟨u, g1, t, g2⟩ := rv.get (i := i) (x := .str ks[i]) (by rw [List.getElem?_map, List.getElem?_eq_getElem hi]; rfl)
    rw [hv] at g1
    cases g1
    exact ⟨t, by rw [g2, List.getD_eq_getElem?_getD, List.getElem?_eq_getElem hi]; rfl⟩
  refine ⟨s.heap.objs.size, _, _, _, _, _, _, rfl, PySem.Walks.list (A := X.A.in1) (I.ok.hd calm) _ a (Nat.ne_of_lt hlt) its.toArray, ⟨⟨_, Heap.get?_push_size _ rfl, rfl, rfl⟩, il.push _⟩, fun b hb => ?_, by simpa [hlen] using pos, cmp_texts (fun i => ks.getD i "") (fun i v hv => at_ i v hv), fun v h' tk hP hk => ?_⟩
  · show b < (s.heap.push _).objs.size
    rw [Heap.size_push]
    simp only [List.mem_cons, List.not_mem_nil, or_false] at hb
    rcases hb with rfl | rfl
    · exact Nat.lt_succ_self _
    · exact Nat.lt_succ_of_lt hlt
  · obtain ⟨t, rfl⟩ := at_ _ v hP
    obtain ⟨b1, b2⟩ := best_le (fun i => ks.getD i "") (its.toArray.size - 1)
    have sz : its.toArray.size = ks.length := by simpa using hlen
    have em : ks.getD (PySem.argBest (fun i j => ltCps (ks.getD i "").cps.toList (ks.getD j "").cps.toList) (its.toArray.size - 1)) "" = minS ks := by
      refine leS_anti ?_ ?_
      · obtain ⟨j, hj, ej⟩ := List.getElem_of_mem (minS_mem ks hne)
        have := b2 j (by omega)
        rw [show ks.getD j "" = minS ks by rw [List.getD_eq_getElem?_getD, List.getElem?_eq_getElem hj, ej]; rfl] at this
        exact this
      · refine minS_le ks _ ?_
        have lt : PySem.argBest (fun i j => ltCps (ks.getD i "").cps.toList (ks.getD j "").cps.toList) (its.toArray.size - 1) < ks.length := by omega
        rw [List.getD_eq_getElem?_getD, List.getElem?_eq_getElem lt]
        exact List.getElem_mem lt
    rw [em]
    refine ⟨.str (minS ks), H, I.kept (fun b o e => ?_), ⟨_, rfl⟩, q⟩
    refine hk b o (fun hm => ?_) (Heap.get?_push_of_some _ e)
    rw [List.mem_singleton.mp hm] at e
    exact absurd (Heap.lt_size e) (Nat.lt_irrefl _)
def sts : List PyData → Option (List Str)
  | [] => some []
  | .str b :: ds => match sts ds with
    | some bs => some (b :: bs)
    | none => none
  | _ => none
theorem sts_of {K : PySem.W.Frag} {H : Hp} : ∀ {ds : List PyData} {bs : List Str} {vs : List V}, sts ds = some bs → DpAll K H vs ds → vs = bs.map V.str
  | [], bs, _, h, k => by cases h; cases k; rfl
  | .str b :: ds, bs, _, h, k => by
    unfold sts at h
    split at h
    · rename_i bs' e
      cases h
      cases k with
      | cons k1 k2 =>
        cases k1
        rw [sts_of e k2]; rfl
    · cases h
  | .none :: _, _, _, h, _ => by cases h
  | .bool _ :: _, _, _, h, _ => by cases h
  | .int _ :: _, _, _, h, _ => by cases h
  | .list _ :: _, _, _, h, _ => by cases h
  | .tuple _ :: _, _, _, h, _ => by cases h
  | .dict _ :: _, _, _, h, _ => by cases h
def wMinL : W → Option W
  | .d (.list ds) => match sts ds with
    | some (x :: r) => some (.d (.str (minS (x :: r))))
    | _ => none
  | _ => none
theorem ok_minL {c : C0} {e : Expr} {f : Rho → Option W} {p pos : Pos} (hb : ("min" : Str) ∈ c.T.bl) (hk : c.sc.names.lookup ("min" : Str) = some .globalImplicit) (ha : OkE c e f) (hs : ∀ env, starEach [e] env = [(false, eval e env)] := by intro _; rfl) :
    OkE c (.Call (.Name "min" p) [e] [] pos) (cOp1 wMinL f) := fun X gd r w h => by
  obtain ⟨x, e1, e2⟩ := cOp1_some h
  unfold wMinL at e2
  split at e2
  · split at e2
    · rename_i y ys e3
      cases e2
      refine pe_imp (pe_callB (call_minS gd.calm) ((gd.kind _).trans hk) (gd.tab.bl _ hb) Nm.boot_min (pa_cons (ha X gd r _ e1) pa_nil (hs X.env)) (he := hs X.env)) fun s H Q q => ⟨q.1, fun v H1 s1 hv => ?_⟩
      cases hv with
      | lst hs ha => exact ⟨_, y :: ys, rfl, by rw [← sts_of e3 ha]; exact hs, by simp, q.2 _ H1 s1 (Dp.str _)⟩
    · cases e2
  · cases e2
end Nm
namespace Nm
open PySem L2 PySem.Spec PyProof.Rows
/-! ### the top, run by the kernel: what it leaves -/
mutual
/-- is a value of the written part these data -/
def litB (K : PySem.W.Frag) : Nat → PyData → Value → Bool
  | 0, _, _ => false
  | _ + 1, .int i, .int j _ => decide (i = j)
  | _ + 1, .str x, .str y _ => decide (x = y)
  | n + 1, .tuple ds, .ref a => (match K.lookup a with
    | some ⟨.type t, _, .seq its _, _⟩ => decide (t = "tuple") && (decide (its.size ≤ 1000) && litsB K n ds its.toList)
    | _ => false)
  | _ + 1, _, _ => false
def litsB (K : PySem.W.Frag) : Nat → List PyData → List Value → Bool
  | 0, _, _ => false
  | _ + 1, [], [] => true
  | n + 1, d :: ds, u :: us => litB K n d u && litsB K n ds us
  | _ + 1, _, _ => false
end
mutual
theorem litB_ok {K : PySem.W.Frag} : ∀ (n : Nat) (d : PyData) (u : Value), litB K n d u = true → ∃ v, RelV v u ∧ ∀ H, Dp K H v d
  | 0, _, _, h => by simp [litB] at h
  | n + 1, d, u, h => by
    unfold litB at h
    split at h
    · cases h
    · rename_i i j t _
      have := of_decide_eq_true h
      subst this
      exact ⟨.int i, ⟨t, rfl⟩, fun _ => .int i⟩
    · rename_i x y t _
      have := of_decide_eq_true h
      subst this
      exact ⟨.str x, ⟨t, rfl⟩, fun _ => .str x⟩
    · rename_i m ds a hm
      cases hm
      split at h
      · rename_i t od its k sl e
        obtain ⟨h1, h2⟩ := He.ba h
        obtain ⟨h2, h3⟩ := He.ba h2
        have h1 := of_decide_eq_true h1
        subst h1
        obtain ⟨vs, v1, v2⟩ := litsB_ok n ds its.toList h3
        exact ⟨.ref a, rfl, fun H => .tup (.inr ⟨_, its, k, e, rfl, rfl, sz (by have := of_decide_eq_true h2; omega), v1⟩) (v2 H)⟩
      · cases h
    · cases h
theorem litsB_ok {K : PySem.W.Frag} : ∀ (n : Nat) (ds : List PyData) (us : List Value), litsB K n ds us = true → ∃ vs, Vals vs us ∧ ∀ H, DpAll K H vs ds
  | 0, _, _, h => by simp [litsB] at h
  | n + 1, ds, us, h => by
    unfold litsB at h
    split at h
    · cases h
    · exact ⟨[], .nil, fun _ => .nil⟩
    · rename_i m d ds u us hm
      cases hm
      obtain ⟨h1, h2⟩ := He.ba h
      obtain ⟨v, r1, r2⟩ := litB_ok n d u h1
      obtain ⟨vs, r3, r4⟩ := litsB_ok n ds us h2
      exact ⟨v :: vs, .cons r1 r3, fun H => .cons (r2 H) (r4 H)⟩
    · cases h
end
/-- what is looked at from the module's names on -/
def refsN (o : Obj) : List Addr := match o.data with
  | .func fd => He.refV fd.code
  | .cls cd => [cd.ns]
  | .dict es _ => es.toList.flatMap fun e => He.refV e.val
  | .seq its _ => its.toList.flatMap He.refV
  | _ => []
def asN (g : Addr → Option Obj) : Nat → List Addr → List Addr
  | 0, l => l
  | n + 1, l => l ++ asN g n (l.flatMap fun a => match g a with
    | some o => refsN o
    | none => [])
/-- the value of the i-th of the last m names of the module -/
def gA (m : Nat) (K : PySem.W.Frag) (i : Nat) : Addr := match K.lookup mainGlobals with
  | some ⟨_, _, .dict es _, _⟩ => (match es.toList[es.size - m + i]? with
    | some e => (match e.val with
      | .ref a => a
      | _ => 0)
    | none => 0)
  | _ => 0
abbrev Pl : Type := Nat × Option Str
def fA (m : Nat) (K : PySem.W.Frag) (p : Pl) : Addr := match p.2 with
  | none => gA m K p.1
  | some x => He.ma K (gA m K p.1) x
/-- one thing that is to be so -/
inductive Fc where
  | glo (x : Str) (i : Nat)
  | free (x : Str)
  | int (x : Str) (v : Int)
  | str (x z : Str)
  | cls (i : Nat)
  | noat (i : Nat) (f : Str)
  | meth (i : Nat) (m : Str)
  | mkr (i : Nat)
  | code (p : Pl) (q : Str)
  | keep (i : Nat)
  /-- a class's instances' type -/
  | ity (i : Nat)
  | kit (i j : Nat) (b : Bool)
  | sub (i j : Nat) (b : Bool)
  | mk0 (i : Nat)
  | kpm (i : Nat) (m : Str)
  | dat (x : Str) (d : PyData)
  | kvs (i : Nat) (l : List (Str × PyData))
  | exc (i : Nat)
abbrev oCls : Value := .builtin "object.__class__"
section
variable (m : Nat) (K : PySem.W.Frag)
def Fc.ok : Fc → Bool
  | .glo x i => He.eqO (PySem.W.nsIn K mainGlobals x) (some (some (.ref (gA m K i))))
  | .free x => He.eqO (PySem.W.nsIn K mainGlobals x) (some none)
  | .int x v => (match PySem.W.nsIn K mainGlobals x with
    | some (some (.int j _)) => decide (j = v)
    | _ => false)
  | .str x z => (match PySem.W.nsIn K mainGlobals x with
    | some (some (.str y _)) => decide (y = z)
    | _ => false)
  | .cls i => PySem.W.plainGet K (gA m K i) Str.empty && (PySem.W.hasDictIn K (gA m K i) && (PySem.W.plainOver K (gA m K i) && He.eqO (PySem.W.findIn K (.ref (gA m K i)) "__setattr__") (some (some (.builtin "object.__setattr__")))))
  | .noat i f => He.eqO (PySem.W.findIn K (.ref (gA m K i)) f) (some none)
  | .meth i x => He.eqO (PySem.W.findIn K (.ref (gA m K i)) x) (some (some (.ref (He.ma K (gA m K i) x)))) && (PySem.W.isFn K (.ref (He.ma K (gA m K i) x)) && PySem.W.keepIn K (.ref (He.ma K (gA m K i) x)))
  | .mkr i => PySem.W.makesIn K (gA m K i) && (He.eqO (PySem.W.findIn K (.ref (gA m K i)) "__init__") (some (some (.ref (He.ma K (gA m K i) "__init__")))) && (PySem.W.isFn K (.ref (He.ma K (gA m K i) "__init__")) && PySem.W.keepIn K (.ref (gA m K i))))
  | .code p q => (match K.lookup (fA m K p) with
    | some ⟨_, _, .func fd, _⟩ => PySem.W.codeIn K fd.code q
    | _ => false)
  | .keep i => PySem.W.keepIn K (.ref (gA m K i))
  | .ity i => He.eqO (PySem.W.findIn K (.ref (gA m K i)) "__class__") (some (some oCls)) && (He.eqO (PySem.W.specialIn K oCls "__get__") (some (some (.builtin "getset_descriptor.__get__"))) && (decide (PySem.W.takesIn K oCls = some true) && decide (PySem.W.mroIn K (gA m K i) (.type "object") = some true)))
  | .kit i j b => decide (PySem.W.kitOne K (.ref (gA m K i)) (.ref (gA m K j)) = some b)
  | .sub i j b => decide (PySem.W.subIn K (.ref (gA m K i)) (.ref (gA m K j)) = some b)
  | .mk0 i => PySem.W.makesIn K (gA m K i) && (He.eqO (PySem.W.findIn K (.ref (gA m K i)) "__init__") (some (some (.builtin "object.__init__"))) && PySem.W.keepIn K (.ref (gA m K i)))
  | .kpm i x => PySem.W.keepIn K (.ref (He.ma K (gA m K i) x))
  | .dat x d => (match PySem.W.nsIn K mainGlobals x with
    | some (some u) => litB K 40 d u
    | _ => false)
  | .kvs i l => l.all fun q => (match PySem.W.nsIn K (gA m K i) q.1 with
    | some (some u) => litB K 40 q.2 u
    | _ => false)
  | .exc i => PySem.W.excIn K (gA m K i) veT "ValueError.__new__" && (PySem.W.keepIn K (.ref (gA m K i)) && (decide (PySem.W.subIn K (.ref (gA m K i)) (.type "BaseException") = some true) && (decide (PySem.W.typeIn K (.ref (gA m K i)) = some (.type "type")) &&
      (He.eqO (PySem.W.findIn K (.ref (gA m K i)) "__getattribute__") (some (some (.builtin "BaseException.__getattribute__"))) && (He.eqO (PySem.W.findIn K (.ref (gA m K i)) "__getattr__") (some none) && (PySem.W.hasDictIn K (gA m K i) &&
      (He.eqO (PySem.W.findIn K (.ref (gA m K i)) "__class__") (some (some oCls)) && (He.eqO (PySem.W.specialIn K oCls "__get__") (some (some (.builtin "getset_descriptor.__get__"))) && (decide (PySem.W.takesIn K oCls = some true) && (decide (PySem.W.mroIn K (gA m K i) (.type "object") = some true) && decide (PySem.W.kitOne K (.ref (gA m K i)) (.type "ValueError") = some true)))))))))))
end
/-- one def -/
structure FnN where
  at_ : Pl
  name : Str
  qual : Str
  st : Stmt
abbrev FvN : Type := Option (Str × Str × Arguments × FuncBody × Scope × Addr × List (Str × Addr) × Value × Addr)
def fnVl (m : Nat) (K : PySem.W.Frag) (p : Pl) : FvN := match K.lookup (fA m K p) with
  | some ⟨_, _, .func fd, _⟩ => some (fd.name, fd.qualname, fd.params, fd.body, fd.scope, fd.globals, fd.closure, fd.defaults, fd.builtins)
  | _ => none
def FnN.val (d : FnN) : FvN := some (d.name, d.qual, defArgs d.st, .stmts (defBody d.st), defScope d.st, mainGlobals, [], .none, builtinsNs)
theorem fnVl_ok {m : Nat} {K : PySem.W.Frag} {d : FnN} (e : fnVl m K d.at_ = d.val) (c : (Fc.code d.at_ d.qual).ok m K = true) :
    ∃ oc od osl kV doc pm an cdv ct, K.lookup (fA m K d.at_) = some ⟨oc, od, .func (PySem.W.fnOf d.name d.qual (defArgs d.st) (defBody d.st) (defScope d.st) .none kV doc pm an cdv ct), osl⟩ ∧ PySem.W.codeIn K cdv d.qual = true := by
  have c2 : (match K.lookup (fA m K d.at_) with
    | some ⟨_, _, .func fd, _⟩ => PySem.W.codeIn K fd.code d.qual
    | _ => false) = true := c
  unfold fnVl at e
  cases q : K.lookup (fA m K d.at_) with
  | none => rw [q] at c2; cases c2
  | some o =>
    obtain ⟨oc, od, dt, osl⟩ := o
    rw [q] at c2 e
    cases dt with
    | func fd =>
      obtain ⟨a1, a2, a3, a4, a5, a6, a7, a8, a9, a10, a11, a12, a13, a14, a15⟩ := fd
      have e2 : (some (a1, a2, a3, a4, a5, a6, a7, a8, a15) : FvN) = some (d.name, d.qual, defArgs d.st, .stmts (defBody d.st), defScope d.st, mainGlobals, [], .none, builtinsNs) := e
      simp only [Option.some.injEq, Prod.mk.injEq] at e2
      obtain ⟨b1, b2, b3, b4, b5, b6, b7, b8, b9⟩ := e2
      subst b1 b2 b3 b4 b5 b6 b7 b8 b9
      exact ⟨oc, od, osl, a9, a10, a11, a12, a13, a14, rfl, c2⟩
    | _ => cases c2
abbrev TbN : Type := Nat × List Str
structure Saw (m : Nat) (fs : List Fc) (fn : List FnN) (ts : List TbN) (w : World) (K : PySem.W.Frag) : Prop where
  fc : (fs.all fun f => f.ok m K) = true
  df : (fn.map fun d => fnVl m K d.at_) = fn.map FnN.val
  tb : (ts.map fun t => He.dicW K (gA m K t.1)) = ts.map fun t => some (He.keysIn w.params t.2)
abbrev SawT : Type := (Bool × List FvN) × List (Option (List (Option (Str × Int))))
def sawK (m : Nat) (fs : List Fc) (fn : List FnN) (ts : List TbN) (K : PySem.W.Frag) : SawT := ((fs.all fun f => f.ok m K, fn.map fun d => fnVl m K d.at_), ts.map fun t => He.dicW K (gA m K t.1))
def sawG (m : Nat) (fs : List Fc) (fn : List FnN) (ts : List TbN) (g : Addr → Option Obj) : SawT := sawK m fs fn ts (He.frG g (asN g 7 [mainGlobals]))
def sawV (fn : List FnN) (ts : List TbN) (w : World) : SawT := ((true, fn.map FnN.val), ts.map fun t => some (He.keysIn w.params t.2))
theorem saw_of {m : Nat} {fs : List Fc} {fn : List FnN} {ts : List TbN} {w : World} {K : PySem.W.Frag} (e : sawK m fs fn ts K = sawV fn ts w) : Saw m fs fn ts w K := ⟨congrArg (fun z : SawT => z.1.1) e, congrArg (fun z : SawT => z.1.2) e, congrArg (fun z : SawT => z.2) e⟩
def hkN (m : Nat) (fs : List Fc) (fn : List FnN) (ts : List TbN) : PySem.W.Hook where
  α := SawT
  obs := fun s => sawG m fs fn ts s.heap.get?
  val := fun w => sawV fn ts w
  says := fun w h => ∃ K : PySem.W.Frag, K.In h ∧ Saw m fs fn ts w K
  of := fun w s e => ⟨_, He.frG_in, saw_of e⟩
  keeps := fun _ _ _ ⟨K, hK, c⟩ k => ⟨K, PySem.W.Frag.In.keeps hK k, c⟩
theorem sawG_eq {m : Nat} {fs : List Fc} {fn : List FnN} {ts : List TbN} (s : PySem.W.SharedT) : sawG m fs fn ts (HandSHeadRun.getT s) = (hkN m fs fn ts).obs s.abs := by
  have e : HandSHeadRun.getT s = s.abs.heap.get? := funext (HandSHeadRun.getT_eq s)
  rw [e]
  rfl
section
variable {m : Nat} {fs : List Fc} {fn : List FnN} {ts : List TbN} {w : World} {K : PySem.W.Frag}
theorem Saw.at (c : Saw m fs fn ts w K) (i : Nat) {f : Fc} (h : fs[i]? = some f := by rfl) : f.ok m K = true := List.all_eq_true.mp c.fc f (List.mem_of_getElem? h)
theorem Saw.fn_ (c : Saw m fs fn ts w K) (i : Nat) {d : FnN} (h : fn[i]? = some d := by rfl) : fnVl m K d.at_ = d.val := by
  have e2 : (fn.map fun d => fnVl m K d.at_)[i]? = (fn.map FnN.val)[i]? := by rw [c.df]
  rw [List.getElem?_map, List.getElem?_map, h] at e2
  exact Option.some.inj e2
theorem Saw.ta (c : Saw m fs fn ts w K) (i : Nat) {t : TbN} (h : ts[i]? = some t := by rfl) : He.dicW K (gA m K t.1) = some (He.keysIn w.params t.2) := by
  have e2 : (ts.map fun t => He.dicW K (gA m K t.1))[i]? = (ts.map fun t => some (He.keysIn w.params t.2))[i]? := by rw [c.tb]
  rw [List.getElem?_map, List.getElem?_map, h] at e2
  exact Option.some.inj e2
end
section
variable {n : Nat} {K : PySem.W.Frag} {x m qual cn : Str} {st : Stmt} {ps : List Str} {i j : Nat}
abbrev dfn (i : Nat) (x qual : Str) (st : Stmt) : FnN := ⟨(i, none), x, qual, st⟩
abbrev dmt (i : Nat) (m qual : Str) (st : Stmt) : FnN := ⟨(i, some m), m, qual, st⟩
theorem defAt_of (hb : BindOk x qual st ps) (e : fnVl n K (dfn i x qual st).at_ = (dfn i x qual st).val) (c1 : (Fc.glo x i).ok n K = true) (c2 : (Fc.code (i, none) qual).ok n K = true) (c3 : (Fc.keep i).ok n K = true) : DefAt K x qual st ps := by
  obtain ⟨oc, od, osl, kV, doc, pm, an, cdv, ct, l, cd⟩ := fnVl_ok (d := dfn i x qual st) e c2
  exact defAt_mk hb (He.eqO_ok c1) l cd c3
theorem metAt_of (hb : BindOk m qual st ps) (e : fnVl n K (dmt i m qual st).at_ = (dmt i m qual st).val) (c1 : (Fc.glo cn i).ok n K = true) (c2 : (Fc.code (i, some m) qual).ok n K = true) (c3 : (Fc.meth i m).ok n K = true) : MetAt K cn m qual st ps := by
  obtain ⟨oc, od, osl, kV, doc, pm, an, cdv, ct, l, cd⟩ := fnVl_ok (d := dmt i m qual st) e c2
  obtain ⟨k1, k2⟩ := He.ba c3
  obtain ⟨k3, k4⟩ := He.ba k2
  exact metAt_mk hb (He.eqO_ok c1) (He.eqO_ok k1) k3 l cd k4
theorem iniAt_of (hb : BindOk "__init__" qual st ps) (e : fnVl n K (dmt i "__init__" qual st).at_ = (dmt i "__init__" qual st).val) (c2 : (Fc.code (i, some "__init__") qual).ok n K = true) (c3 : (Fc.mkr i).ok n K = true) (c4 : (Fc.kpm i "__init__").ok n K = true) : IniAt K (gA n K i) qual st ps := by
  obtain ⟨oc, od, osl, kV, doc, pm, an, cdv, ct, l, cd⟩ := fnVl_ok (d := dmt i "__init__" qual st) e c2
  obtain ⟨k1, k2⟩ := He.ba c3
  obtain ⟨k3, k4⟩ := He.ba k2
  obtain ⟨k5, k6⟩ := He.ba k4
  exact iniAt_mk hb k1 (He.eqO_ok k3) k5 k6 l cd c4
theorem clsAt_of {fs : List Str} (c1 : (Fc.glo cn i).ok n K = true) (c2 : (Fc.cls i).ok n K = true) (c3 : (Fc.ity i).ok n K = true) (na : ∀ f ∈ fs, NoAttr K (gA n K i) f) : ClsAt K (gA n K i) cn fs := by
  obtain ⟨k1, k2⟩ := He.ba c3
  obtain ⟨k3, k4⟩ := He.ba k2
  obtain ⟨k5, k6⟩ := He.ba k4
  obtain ⟨l1, l2⟩ := He.ba c2
  obtain ⟨l3, l4⟩ := He.ba l2
  obtain ⟨l5, l6⟩ := He.ba l4
  exact ⟨He.eqO_ok c1, ⟨l1, l3, l5, He.eqO_ok l6⟩, na, He.eqO_ok k1, He.eqO_ok k3, of_decide_eq_true k5, of_decide_eq_true k6⟩
theorem noAt_of {f : Str} (c : (Fc.noat i f).ok n K = true) : PySem.W.findIn K (.ref (gA n K i)) f = some none := He.eqO_ok c
theorem mk0_of (c : (Fc.mk0 i).ok n K = true) : Mk0 K (gA n K i) := by
  obtain ⟨k1, k2⟩ := He.ba c
  obtain ⟨k3, k4⟩ := He.ba k2
  exact ⟨k1, He.eqO_ok k3, k4⟩
theorem kit_of {b : Bool} (c : (Fc.kit i j b).ok n K = true) : PySem.W.kitOne K (.ref (gA n K i)) (.ref (gA n K j)) = some b := of_decide_eq_true c
theorem free_of (c : (Fc.free x).ok n K = true) : PySem.W.nsIn K mainGlobals x = some none := He.eqO_ok c
theorem int_of' {v : Int} (c : (Fc.int x v).ok n K = true) : ∃ t, PySem.W.nsIn K mainGlobals x = some (some (.int v t)) := by
  have c2 : (match PySem.W.nsIn K mainGlobals x with
    | some (some (.int j _)) => decide (j = v)
    | _ => false) = true := c
  split at c2
  · rename_i j t e
    have := of_decide_eq_true c2
    subst this
    exact ⟨t, e⟩
  · cases c2
theorem str_of' {z : Str} (c : (Fc.str x z).ok n K = true) : ∃ t, PySem.W.nsIn K mainGlobals x = some (some (.str z t)) := by
  have c2 : (match PySem.W.nsIn K mainGlobals x with
    | some (some (.str y _)) => decide (y = z)
    | _ => false) = true := c
  split at c2
  · rename_i j t e
    have := of_decide_eq_true c2
    subst this
    exact ⟨t, e⟩
  · cases c2
theorem gdAt_of {d : PyData} (c : (Fc.dat x d).ok n K = true) : GdAt K x d := by
  have c2 : (match PySem.W.nsIn K mainGlobals x with
    | some (some u) => litB K 40 d u
    | _ => false) = true := c
  split at c2
  · rename_i u e
    obtain ⟨v, r, h⟩ := litB_ok 40 d u c2
    exact ⟨v, u, e, r, h⟩
  · cases c2
theorem gkAt_of {w : World} {l : List (Str × PyData)} {ks : List Str} (c1 : (Fc.glo x i).ok n K = true) (c2 : (Fc.kvs i l).ok n K = true) (c3 : He.dicW K (gA n K i) = some (He.keysIn w.params ks)) : GkAt K w x l := by
  obtain ⟨es, k, hd⟩ := He.dicW_ok c3
  refine ⟨gA n K i, He.eqO_ok c1, fun z d q => ?_⟩
  have hm : (z, d) ∈ l := by
    clear c2
    induction l with
    | nil => cases q
    | cons p l ih =>
      rw [List.lookup_cons] at q
      split at q
      · rename_i e
        cases q
        have : z = p.1 := by simpa using e
        rw [this]
        exact List.mem_cons_self
      · exact List.mem_cons_of_mem _ (ih q)
  have h := List.all_eq_true.mp c2 _ hm
  simp only [] at h
  split at h
  · rename_i u e
    obtain ⟨v, r, h⟩ := litB_ok 40 d u h
    exact ⟨v, ⟨es, k, u, hd.1, hd.2, e, r⟩, h⟩
  · cases h
theorem exC_of (c : (Fc.exc i).ok n K = true) : ExC K (gA n K i) := by
  obtain ⟨a1, c⟩ := He.ba c
  obtain ⟨a2, c⟩ := He.ba c
  obtain ⟨a3, c⟩ := He.ba c
  obtain ⟨a4, c⟩ := He.ba c
  obtain ⟨a5, c⟩ := He.ba c
  obtain ⟨a6, c⟩ := He.ba c
  obtain ⟨a7, c⟩ := He.ba c
  obtain ⟨a8, c⟩ := He.ba c
  obtain ⟨a9, c⟩ := He.ba c
  obtain ⟨a10, c⟩ := He.ba c
  obtain ⟨a11, a12⟩ := He.ba c
  exact ⟨a1, a2, of_decide_eq_true a3, of_decide_eq_true a4, ⟨He.eqO_ok a5, He.eqO_ok a6, of_decide_eq_true a3, a7, He.eqO_ok a8, He.eqO_ok a9, of_decide_eq_true a10, of_decide_eq_true a11⟩, of_decide_eq_true a12⟩
theorem glo_of {mg : Str → Option Value} {h : Heap} (X : K.In h) (G : h.Ns mainGlobals mg) (c : (Fc.glo x i).ok n K = true) : mg x = some (.ref (gA n K i)) := PySem.W.mg_of X G (He.eqO_ok c)
end
theorem exPair {n : Nat} {K : PySem.W.Frag} {mg : Str → Option Value} {h : Heap} {y : Str} {i j : Nat} {b : Bool} {D : Addr} (X : K.In h) (G : h.Ns mainGlobals mg) (e : (Fc.glo y j).ok n K = true) (hD : mg y = some (.ref D)) (s : (Fc.sub i j b).ok n K = true) (t : (Fc.kit i j b).ok n K = true) :
    PySem.W.subIn K (.ref (gA n K i)) (.ref D) = some b ∧ PySem.W.kitOne K (.ref (gA n K i)) (.ref D) = some b := by
  have q := glo_of X G e
  rw [hD] at q
  cases q
  exact ⟨of_decide_eq_true s, of_decide_eq_true t⟩
/-! ### the run in parts: each looks at a few things -/
section
variable {S A B : Type} {r : Option S}
theorem mp_all {p : S → A → Bool} {xs ys : List A} (h1 : r.map (fun s => xs.all (p s)) = some true) (h2 : r.map (fun s => ys.all (p s)) = some true) : r.map (fun s => (xs ++ ys).all (p s)) = some true := by
  cases r with
  | none => cases h1
  | some s =>
    have h1 := Option.some.inj h1
    have h2 := Option.some.inj h2
    simp only [Option.map_some, List.all_append, h1, h2, Bool.and_self]
theorem mp_map {p : S → A → B} {v : A → B} {xs ys : List A} (h1 : r.map (fun s => xs.map (p s)) = some (xs.map v)) (h2 : r.map (fun s => ys.map (p s)) = some (ys.map v)) : r.map (fun s => (xs ++ ys).map (p s)) = some ((xs ++ ys).map v) := by
  cases r with
  | none => cases h1
  | some s =>
    have h1 := Option.some.inj h1
    have h2 := Option.some.inj h2
    simp only [Option.map_some, List.map_append, h1, h2]
theorem mp_pair {f : S → A} {g : S → B} {a : A} {b : B} (h1 : r.map f = some a) (h2 : r.map g = some b) : r.map (fun s => (f s, g s)) = some (a, b) := by
  cases r with
  | none => cases h1
  | some s =>
    have h1 := Option.some.inj h1
    have h2 := Option.some.inj h2
    simp only [Option.map_some, h1, h2]
end
section
variable {r : PySem.W.OpenRow} {q : Program} {M m : Nat} {loose : List Str} {w : World} {fs gs : List Fc} {fn gn : List FnN} {ts : List TbN}
noncomputable abbrev endR (r : PySem.W.OpenRow) (M : Nat) (w : World) (os : OsState) : Option PySem.W.SharedT := HandSHeadRun.endF (HandSHeadRun.stepQ (HandSHeadRun.denQ HandSHeadRun.tabQ) r.prog w) M r.prog w os
def frK (s : PySem.W.SharedT) : PySem.W.Frag := He.frG (HandSHeadRun.getT s) (asN (HandSHeadRun.getT s) 7 [mainGlobals])
def RunF (r : PySem.W.OpenRow) (M m : Nat) (fs : List Fc) (w : World) : Prop := ∀ os : OsState, (endR r M w os).map (fun s => fs.all fun f => f.ok m (frK s)) = some true
def RunD (r : PySem.W.OpenRow) (M m : Nat) (fn : List FnN) (w : World) : Prop := ∀ os : OsState, (endR r M w os).map (fun s => fn.map fun d => fnVl m (frK s) d.at_) = some (fn.map FnN.val)
theorem RunF.app (h1 : RunF r M m fs w) (h2 : RunF r M m gs w) : RunF r M m (fs ++ gs) w := fun os => mp_all (p := fun s (f : Fc) => f.ok m (frK s)) (h1 os) (h2 os)
theorem RunD.app (h1 : RunD r M m fn w) (h2 : RunD r M m gn w) : RunD r M m (fn ++ gn) w := fun os => mp_map (p := fun s (d : FnN) => fnVl m (frK s) d.at_) (h1 os) (h2 os)
theorem run_join (hb : HandSHeadRun.RunEq r q (hkN m [] [] ts) (fun s => sawG m [] [] ts (HandSHeadRun.getT s)) M loose w) (hf : RunF r M m fs w) (hd : RunD r M m fn w) : HandSHeadRun.RunEq r q (hkN m fs fn ts) (fun s => sawG m fs fn ts (HandSHeadRun.getT s)) M loose w := fun os => by
  have hb := hb os
  have h := mp_pair (hf os) (hd os)
  revert hb h
  show (endR r M w os).map (fun s => (_, _, sawG m [] [] ts (HandSHeadRun.getT s))) = some (true, _, sawV [] ts w) → (endR r M w os).map _ = _ → (endR r M w os).map (fun s => (_, _, sawG m fs fn ts (HandSHeadRun.getT s))) = some (true, _, sawV fn ts w)
  generalize endR r M w os = o
  cases o with
  | none => intro hb; cases hb
  | some s =>
    intro hb h
    have hb := Option.some.inj hb
    have h := Option.some.inj h
    simp only [Prod.mk.injEq] at hb
    obtain ⟨b1, b2, b3⟩ := hb
    have b4 : (sawG m [] [] ts (HandSHeadRun.getT s)).2 = (sawV [] ts w).2 := by rw [b3]
    exact congrArg some (Prod.ext b1 (Prod.ext b2 (Prod.ext h b4)))
end
end Nm
namespace Nm
open PySem L2 PySem.Spec PyProof.Rows
/-! ### the makers' tables, as the top left them -/
def chdB (K : PySem.W.Frag) (c P : Addr) : Bool := match K.lookup c with
  | some ⟨.type t, _, .fields us, _⟩ => decide (t = "code") && (decide (us[11]? = some (.ref P)) && ((match us.getD 18 .none with | .str _ _ => true | _ => false) && ((match us.getD 7 .none with | .int _ _ => true | _ => false) &&
      ((match us.getD 9 .none with | .bool _ => true | _ => false) && ((match us.getD 10 .none with | .int _ _ => true | _ => false) && (decide (c ≠ P) && (K.lookup P).isNone))))))
  | _ => false
theorem chd_ok {K : PySem.W.Frag} {h : Heap} {c P : Addr} (X : K.In h) (e : chdB K c P = true) : PySem.W.CodeHd h c P ∧ K.lookup P = none := by
  unfold chdB at e
  split at e
  · rename_i t od us sl q
    obtain ⟨e1, e⟩ := He.ba e
    obtain ⟨e2, e⟩ := He.ba e
    obtain ⟨e3, e⟩ := He.ba e
    obtain ⟨e4, e⟩ := He.ba e
    obtain ⟨e5, e⟩ := He.ba e
    obtain ⟨e6, e⟩ := He.ba e
    obtain ⟨e7, e8⟩ := He.ba e
    have e1 := of_decide_eq_true e1
    have e2 := of_decide_eq_true e2
    have e7 := of_decide_eq_true e7
    subst e1
    refine ⟨?_, Option.isNone_iff_eq_none.mp e8⟩
    split at e3
    · rename_i file tf q3
      split at e4
      · rename_i flags tg q4
        split at e5
        · rename_i inF q5
          split at e6
          · rename_i text tt q6
            refine ⟨_, us, file, tf, flags, tg, inF, text, tt, X _ _ q, rfl, rfl, e2, ?_, q3, q4, q5, q6, e7⟩
            obtain ⟨hi, he⟩ := Array.getElem?_eq_some_iff.mp e2
            simp [Array.getD, hi, he]
          · cases e6
        · cases e5
      · cases e4
    · cases e3
  · cases e
def emptyT : Option Obj → Bool
  | some ⟨.none, none, .fields us, sl⟩ => decide (us.size = 0) && decide (sl.size = 0)
  | _ => false
def tabsB (g : Addr → Option Obj) (K : PySem.W.Frag) (m : Nat) (ms : List Nat) : Bool := ms.all fun i => match tabF K (gA m K i) with
  | some (c, P) => chdB K c P && emptyT (g P)
  | none => false
theorem emptyT_ok {o : Option Obj} (e : emptyT o = true) : o = some { cls := .none, data := .fields #[] } := by
  unfold emptyT at e
  split at e
  · rename_i us sl
    obtain ⟨h1, h2⟩ := He.ba e
    rw [Array.size_eq_zero_iff.mp (of_decide_eq_true h1), Array.size_eq_zero_iff.mp (of_decide_eq_true h2)]
  · cases e
structure TabsAt (m : Nat) (ms : List Nat) (K : PySem.W.Frag) (h : Heap) : Prop where
  ex : ∀ i ∈ ms, ∃ c P, tabF K (gA m K i) = some (c, P) ∧ chdB K c P = true ∧ h.get? P = some { cls := .none, data := .fields #[] }
theorem tabs_of {m : Nat} {ms : List Nat} {K : PySem.W.Frag} {h : Heap} (e : tabsB h.get? K m ms = true) : TabsAt m ms K h := ⟨fun i hi => by
  have q := List.all_eq_true.mp e i hi
  split at q
  · rename_i c P e1
    obtain ⟨q1, q2⟩ := He.ba q
    exact ⟨c, P, e1, q1, emptyT_ok q2⟩
  · cases q⟩
abbrev SawT2 : Type := SawT × Bool
def sawG2 (m : Nat) (fs : List Fc) (fn : List FnN) (ts : List TbN) (ms : List Nat) (g : Addr → Option Obj) : SawT2 := (sawG m fs fn ts g, tabsB g (He.frG g (asN g 7 [mainGlobals])) m ms)
def hkT (m : Nat) (fs : List Fc) (fn : List FnN) (ts : List TbN) (ms : List Nat) : PySem.W.Hook where
  α := SawT2
  obs := fun s => sawG2 m fs fn ts ms s.heap.get?
  val := fun w => (sawV fn ts w, true)
  says := fun w h => ∃ K : PySem.W.Frag, K.In h ∧ Saw m fs fn ts w K ∧ TabsAt m ms K h
  of := fun w s e => ⟨_, He.frG_in, saw_of (congrArg Prod.fst e), tabs_of (congrArg Prod.snd e)⟩
  keeps := fun _ _ _ ⟨K, hK, c, t⟩ k => ⟨K, PySem.W.Frag.In.keeps hK k, c, ⟨fun i hi => by
    obtain ⟨c, P, e1, e2, e3⟩ := t.ex i hi
    exact ⟨c, P, e1, e2, k _ _ e3⟩⟩⟩
theorem sawG2_eq {m : Nat} {fs : List Fc} {fn : List FnN} {ts : List TbN} {ms : List Nat} (s : PySem.W.SharedT) : sawG2 m fs fn ts ms (HandSHeadRun.getT s) = (hkT m fs fn ts ms).obs s.abs := by
  have e : HandSHeadRun.getT s = s.abs.heap.get? := funext (HandSHeadRun.getT_eq s)
  rw [e]
  rfl
section
variable {r : PySem.W.OpenRow} {q : Program} {M m : Nat} {loose : List Str} {w : World} {fs : List Fc} {fn : List FnN} {ts : List TbN} {ms : List Nat}
def RunT (r : PySem.W.OpenRow) (M m : Nat) (ms : List Nat) (w : World) : Prop := ∀ os : OsState, (endR r M w os).map (fun s => tabsB (HandSHeadRun.getT s) (frK s) m ms) = some true
theorem run_joinT (hb : HandSHeadRun.RunEq r q (hkN m fs fn ts) (fun s => sawG m fs fn ts (HandSHeadRun.getT s)) M loose w) (ht : RunT r M m ms w) : HandSHeadRun.RunEq r q (hkT m fs fn ts ms) (fun s => sawG2 m fs fn ts ms (HandSHeadRun.getT s)) M loose w := fun os => by
  have hb := hb os
  have h := ht os
  revert hb h
  show (endR r M w os).map (fun s => (_, _, sawG m fs fn ts (HandSHeadRun.getT s))) = some (true, _, sawV fn ts w) → (endR r M w os).map _ = some true → (endR r M w os).map (fun s => (_, _, sawG2 m fs fn ts ms (HandSHeadRun.getT s))) = some (true, _, (sawV fn ts w, true))
  generalize endR r M w os = o
  cases o with
  | none => intro hb; cases hb
  | some s =>
    intro hb h
    have hb := Option.some.inj hb
    have h := Option.some.inj h
    simp only [Prod.mk.injEq] at hb
    obtain ⟨b1, b2, b3⟩ := hb
    exact congrArg some (Prod.ext b1 (Prod.ext b2 (Prod.ext b3 h)))
end
theorem tabs_lk {T : Tab} {K : PySem.W.Frag} {mg : Str → Option Value} {h : Heap} {m : Nat} {ms : List Nat} (X : K.In h) (t : TabsAt m ms K h) (hl : ∀ x ∈ T.lk, ∃ i ∈ ms, mg x = some (.ref (gA m K i))) :
    (∀ x ∈ T.lk, (tabAt K mg x).isSome = true) ∧ ∀ p ∈ lkc T K mg, h.get? p.2 = some { cls := .none, data := .fields #[] } ∧ K.lookup p.2 = none ∧ PySem.W.CodeHd h p.1 p.2 := by
  have key : ∀ x ∈ T.lk, ∃ c P, tabAt K mg x = some (c, P) ∧ chdB K c P = true ∧ h.get? P = some { cls := .none, data := .fields #[] } := fun x hx => by
    obtain ⟨i, hi, e⟩ := hl x hx
    obtain ⟨c, P, e1, e2, e3⟩ := t.ex i hi
    refine ⟨c, P, ?_, e2, e3⟩
    unfold tabAt
    rw [e]
    exact e1
  refine ⟨fun x hx => ?_, fun p hp => ?_⟩
  · obtain ⟨c, P, e, _⟩ := key x hx
    rw [e]; rfl
  · obtain ⟨x, hx, e⟩ := List.mem_filterMap.mp hp
    obtain ⟨c, P, e1, e2, e3⟩ := key x hx
    rw [e] at e1
    cases e1
    obtain ⟨g1, g2⟩ := chd_ok X e2
    exact ⟨e3, g2, g1⟩
/-! ### the end -/
section
variable {l : PySem.W.OpenLaw} {n k : Nat} {q : Program} {loose : List Str} {XP : (Str → Option Value) → Heap → Prop} {YP : World → Heap → Prop} {d : DefRec} {x : Str}
theorem end_tab (T : Tab) (most : l.most = some n) (fits : n ≤ 63) (plain : d.params.defaults = []) (room : Room k callerA)
    (F : ∀ (w : World) (mg : Str → Option Value) (fa : Addr) (h : Heap), YP w h → h.Ns mainGlobals mg → mg d.name = some (.ref fa) → ∃ (K : PySem.W.Frag) (fd : FuncData), K.In h ∧ (∀ p ∈ lkc T K mg, h.get? p.2 = some { cls := .none, data := .fields #[] } ∧ K.lookup p.2 = none ∧ PySem.W.CodeHd h p.1 p.2) ∧
      (∀ (s : Shared) (u : Value), BindsTo s fd ⟨[u], []⟩ [(x, u)]) ∧ ∀ base : Heap, K.In base → base.Ns mainGlobals mg → (∀ p ∈ lkc T K mg, LamX.TabB base mg p.1 p.2) → FnOk l.prog w K mg base CX0 k fa fd [x] (spLaw T K mg)) : PySem.W.WalkO q loose XP YP l.row.toRowW d [] (fun f vs => PySem.call f vs) :=
  LamX.walk_ofTsE (CX := fun _ => CX0) most (Nat.le_trans fits (by decide)) plain room (fun w mg fa h Y G hmg => by
    obtain ⟨K, fd, KX, hT, bind, R⟩ := F w mg fa h Y G hmg
    exact ⟨K, KX, fd, lkc T K mg, spLaw T K mg, fun p hp => (hT p hp).1, fun p hp => (hT p hp).2.1, fun p hp => (hT p hp).2.2, bind,
      fun H a ns few bits hH hS => ⟨a, ns, rfl, hS, Nat.le_trans few fits, bits, tb_nil hH, fun _ => rfl⟩, R⟩) fun _ _ _ _ _ z => z
end
end Nm
namespace Nm
open PySem PyProof.Rows L2

/-! ### a walk over a list or a tuple -/
def vLT (f : Rho → Option W) : Rho → Option (List PyData) := fun r => match f r with
  | some (.d (.list ds)) => some ds
  | some (.d (.tuple ds)) => some ds
  | _ => none
theorem okV_lt {c : C0} {tg e : Expr} {f : Rho → Option W} (he : OkE c e f) : OkV c tg e (vLT f) := fun X gd r ds k => by
  unfold vLT at k
  split at k
  · rename_i e1
    exact okV_list he X gd r ds (by unfold vL; rw [e1]; exact k)
  · rename_i e1
    exact okV_tup he X gd r ds (by unfold vT'; rw [e1]; exact k)
  · cases k

/-! ### the heap, one address less, one more -/
def del (H : Hp) (c : Addr) : Hp := fun b => if b = c then none else H b
theorem del_at {H : Hp} {c : Addr} : del H c c = none := if_pos rfl
theorem del_ne {H : Hp} {b c : Addr} (h : b ≠ c) : del H c b = H b := if_neg h
/-- a cell, held as it is -/
abbrev CellF (c : Addr) (o : Obj) : HO := .frz o (.own c)
section
variable {P : Program} {w : World} {A : Around} {outer : List Env} {s : Shared} {H : Hp} {Q Q' : VK} {E : XK} {code : Code} {c : Addr} {o : Obj}
theorem hok_get (ok : HOk P w H s.heap) (e : H c = some (CellF c o)) : s.heap.get? c = some o := (ok c _ e).1
theorem hok_del {h : Heap} (ok : HOk P w H h) (e : H c = some (CellF c o)) : HOk P w (del H c) h := fun b u q => by
  have hb : b ≠ c := fun z => by rw [z, del_at] at q; cases q
  rw [del_ne hb] at q
  refine (ok b u q).stay (fun _ _ _ z => z) (fun a z => ?_) fun a xs z => ?_
  · rw [del_ne (fun y => by rw [y, e] at z; cases z)]; exact z
  · rw [del_ne (fun y => by rw [y, e] at z; cases z)]; exact z
theorem hok_add {h : Heap} (ok : HOk P w H h) (e : H c = none) (g : h.get? c = some o) : HOk P w (upd H c (CellF c o)) h := fun b u q => by
  by_cases hb : b = c
  · subst hb
    rw [upd_same] at q
    cases q
    exact ⟨g, ⟨o, g⟩⟩
  · rw [upd_ne hb] at q
    refine (ok b u q).stay (fun _ _ _ z => z) (fun a z => ?_) fun a xs z => ?_
    · rw [upd_ne (fun y => by rw [y, e] at z; cases z)]; exact z
    · rw [upd_ne (fun y => by rw [y, e] at z; cases z)]; exact z
/-- run without the cell, told with it -/
theorem cr_thaw (e : H c = some (CellF c o)) (hf : c ∉ frs outer) (ok : HOk P w H s.heap) (R : codeAny (model P w) A code (CR CX0 outer P w (del H c) s Q' E0) s) (imp : ∀ v H', Q' v H' → H' c = none → Q v (upd H' c (CellF c o))) : codeAny (model P w) A code (CR CX0 outer P w H s Q E0) s := by
  refine codeAny_mono R fun r s' z => ?_
  have g := hok_get ok e
  match r, z with
  | .ok (.ret u), ⟨v, H', os, bare, un, hok', rel, q⟩ =>
    have g' := un.keep c o g del_at hf List.not_mem_nil
    have n' := un.free c o g del_at List.not_mem_nil
    refine ⟨v, upd H' c (CellF c o), os, bare, ?_, hok_add hok' n' g', rel, imp v H' q n'⟩
    have ne : ∀ {b : Addr}, H b ≠ some (CellF c o) → b ≠ c := fun h z => by rw [z] at h; exact h e
    have nn : ∀ {b : Addr}, H b = none → b ≠ c := fun h => ne (by rw [h]; exact nofun)
    refine ⟨fun b ob g1 n hb hx => un.keep b ob g1 (by rw [del_ne (nn n)]; exact n) hb hx, fun b ob g1 n hb hx => un.slot b ob g1 (by rw [del_ne (nn n)]; exact n) hb hx, fun b ob g1 n hx => ?_, un.there, fun b xs n => ?_, fun b ob u n => ?_, fun b ps n => ?_⟩
    · rw [upd_ne (nn n)]
      exact un.free b ob g1 (by rw [del_ne (nn n)]; exact n) hx
    · have hb : b ≠ c := ne (by rw [n]; exact nofun)
      rw [upd_ne hb]
      exact un.tups b xs (by rw [del_ne hb]; exact n)
    · by_cases hb : b = c
      · rw [hb, e] at n
        rw [hb, upd_same]
        exact n
      · rw [upd_ne hb]
        exact un.frzs b ob u (by rw [del_ne hb]; exact n)
    · have hb : b ≠ c := ne (by rw [n]; exact nofun)
      rw [upd_ne hb]
      exact un.tbls b ps (by rw [del_ne hb]; exact n)
/-- run with the cell, told without it -/
theorem cr_hold (e : H c = none) (g : s.heap.get? c = some o) (R : codeAny (model P w) A code (CR CX0 outer P w (upd H c (CellF c o)) s Q' E0) s) (imp : ∀ v H', Q' v H' → Q v (del H' c)) : codeAny (model P w) A code (CR CX0 outer P w H s Q E0) s := by
  refine codeAny_mono R fun r s' z => ?_
  match r, z with
  | .ok (.ret u), ⟨v, H', os, bare, un, hok', rel, q⟩ =>
    have e' := un.frzs c o _ upd_same
    have g' := hok_get hok' e'
    refine ⟨v, del H' c, os, bare, ?_, hok_del hok' e', rel, imp v H' q⟩
    have some_ne : ∀ {b : Addr} {u : HO}, H b = some u → b ≠ c := fun h z => by rw [z, e] at h; cases h
    refine ⟨fun b ob g1 n hb hx => ?_, fun b ob g1 n hb hx => ?_, fun b ob g1 n hx => ?_, un.there, fun b xs n => ?_, fun b ob u n => ?_, fun b ps n => ?_⟩
    · by_cases z : b = c
      · rw [z] at g1 ⊢
        rw [g] at g1
        cases g1
        exact g'
      · exact un.keep b ob g1 (by rw [upd_ne z]; exact n) hb hx
    · by_cases z : b = c
      · rw [z] at g1 ⊢
        rw [g] at g1
        cases g1
        exact ⟨o.slots, g'⟩
      · exact un.slot b ob g1 (by rw [upd_ne z]; exact n) hb hx
    · by_cases z : b = c
      · rw [z]; exact del_at
      · rw [del_ne z]
        exact un.free b ob g1 (by rw [upd_ne z]; exact n) hx
    · have hb := some_ne n
      rw [del_ne hb]
      exact un.tups b xs (by rw [upd_ne hb]; exact n)
    · have hb := some_ne n
      rw [del_ne hb]
      exact un.frzs b ob u (by rw [upd_ne hb]; exact n)
    · have hb := some_ne n
      rw [del_ne hb]
      exact un.tbls b ps (by rw [upd_ne hb]; exact n)
theorem env_del {K : PySem.W.Frag} {mg : Str → Option Value} {base : Heap} (e0 : Env0 P w K mg base A outer s H) (e : H c = some (CellF c o)) : Env0 P w K mg base A outer s (del H c) :=
  ⟨e0.frames, e0.mod, fun b u g => ⟨(e0.bs b u g).1, by
    by_cases z : b = c
    · rw [z]; exact del_at
    · rw [del_ne z]; exact (e0.bs b u g).2⟩, e0.bsz, e0.funs, fun b hb => by
    by_cases z : b = c
    · rw [z]; exact del_at
    · rw [del_ne z]; exact e0.frf b hb, hok_del e0.hok e, e0.bare⟩
theorem env_add {K : PySem.W.Frag} {mg : Str → Option Value} {base : Heap} (e0 : Env0 P w K mg base A outer s H) (e : H c = none) (g : s.heap.get? c = some o) (hb : base.get? c = none) (hf : c ∉ frs outer) : Env0 P w K mg base A outer s (upd H c (CellF c o)) :=
  ⟨e0.frames, e0.mod, fun b u g1 => ⟨(e0.bs b u g1).1, by
    have z : b ≠ c := fun y => by rw [y, hb] at g1; cases g1
    rw [upd_ne z]; exact (e0.bs b u g1).2⟩, e0.bsz, e0.funs, fun b h => by
    have z : b ≠ c := fun y => hf (y ▸ h)
    rw [upd_ne z]; exact e0.frf b h, hok_add e0.hok e g, e0.bare⟩
end

/-! ### calls where no repr is under way -/
theorem call_end {X : Cx} {pins : List (Addr × Obj)} {σ : L2.St} {H : Hp} {s : Shared} {Q : VK} {a : Addr} {us : List Value} (I : Inv X pins σ H s) (R : codeAny (model X.prog X.w) X.A (.call (.ref a) ⟨us, []⟩) (CR CX0 X.stack X.prog X.w H s Q E0) s) : wpAny (model X.prog X.w) X.A (call (.ref a) us) (EP X pins σ Q) X.xe s :=
  wpAny_call (codeAny_mono R fun r s' z => match r, z with
    | .ok (.ret _), z => I.after z)
section
variable {X : Cx} {k : Nat} {f : Addr} {fd : FuncData} {ps : List Str} {sp : Sp} {t : TA} {x : Str} {e : Expr} {es : List Expr} {p pos : Pos}
/-- f(e, ..), f a def that wants that no repr is under way -/
theorem pe_callG (F : RunG X.prog X.w X.K X.mg X.base k f fd ps sp) (long : ∀ vs M Q E, sp vs M Q E → vs.length = ps.length) (hgu : X.A.guards = some []) (room : Room k X.A) (hgl : Gl X x) (hmg : X.mg x = some (.ref f)) (hkp : PySem.W.keepIn X.K (.ref f) = true) (hbi : Binds X.K fd ps [])
    (ha : PA X (e :: es) t) (hdb : (x == ("__debug__" : Str)) = false := by decide) (he : starEach (e :: es) X.env = (false, eval e X.env) :: starEach es X.env := by rfl) (hpl : (backTo pos (starEach es X.env)).any (·.1) = false := by rfl) :
    PE X (.Call (.Name x p) (e :: es) [] pos) (fun s H Q => t s H fun vs H1 => sp vs H1 Q E0) := ⟨fun pins s σ H Q I q => by
  refine wpAny_Call_Name_kw (ld_glob I hgl hmg ?_ hdb)
  refine PySem.W.callWith_K (h₀ := X.base) I.ok.mod.kin hkp (thn (ha.run pos pins s σ H _ I q) fun us s1 ⟨vs, H1, I1, rel, q1⟩ => ⟨I1.kIn, ?_⟩) he hpl
  have hl := long _ _ _ _ q1
  have bi := hbi s1 us I1.kIn (by rw [List.append_nil, ← rel.length]; exact hl)
  rw [List.append_nil] at bi
  exact call_end I1 (F X.A X.stack s1 H1 ⟨us, []⟩ us vs Q E0 hgu room I1.env0 bi rel q1).2⟩
end

/-! ### lambdas that hold cells -/
/-- the object at a is a lambda's function, its cells cl -/
def LamC (L : LamD) (cl : List (Str × Addr)) (a c : Addr) : HO := .ext fun h => ∃ (od : Option Addr) (sl : Array (Option Value)) (pm ctv : Value), h.get? a = some (⟨.type "function", od, .func (PySem.W.kla_fn "<lambda>" L.qual L.params L.body L.scope cl pm (.ref c) ctv), sl⟩ : Obj)
theorem lamC_ne {L : LamD} {cl : List (Str × Addr)} {a c : Addr} (ps : Array Value) : LamC L cl a c ≠ .tbl ps := fun z => by
  unfold LamC at z
  cases z
section
variable {X : Cx} {pins : List (Addr × Obj)} {σ : L2.St} {H : Hp} {s : Shared}
theorem inv_lamC {L : LamD} {cl : List (Str × Addr)} {c : Addr} {o : Obj} {t' : Nat} {pm ctv : Value} (I : Inv X pins σ H s) (ho : o = { cls := .type "function", data := .func (PySem.W.kla_fn "<lambda>" L.qual L.params L.body L.scope cl pm (.ref c) ctv) }) :
    Inv X pins σ (upd H s.heap.objs.size (LamC L cl s.heap.objs.size c)) { s with heap := s.heap.push o, toks := t' } := by
  subst ho
  refine I.laid (a := s.heap.objs.size) (fun b u e => Heap.get?_push_of_some _ e) (Nat.le_refl _) ?_
  have e := Heap.get?_push_size s.heap (o := ({ cls := .type "function", data := .func (PySem.W.kla_fn "<lambda>" L.qual L.params L.body L.scope cl pm (.ref c) ctv) } : Obj)) rfl
  exact ⟨⟨_, _, pm, ctv, e⟩, ⟨_, e⟩, fun h1 h2 ⟨od, sl, p, t, z⟩ st => ⟨od, sl, p, t, st _ z⟩⟩
theorem lam_makeC {c P : Addr} {params : Arguments} {body : Expr} {scope : Scope} {pos : Pos} {E : Value → Shared → Prop} {Q : Value → Shared → Prop} (I : Inv X pins σ H s) (TB : LamX.TabB X.base X.mg c P) (hcode : X.env.code = .ref c)
    (hT : TabA H P) (hdef : defaultsOf params X.env = ([], [])) (hfr : ∀ y ∈ scope.names, y.2 = .free → ∃ c, X.env.cells.lookup y.1 = some c)
    (h : ∀ (f c' : Addr) (q : Str) (H1 : Hp) (s' : Shared), Inv X pins σ H1 s' → Same H H1 → H f = none → H1 f = some (LamC ⟨X.env.qual ++ "<lambda>", params, body, scope⟩ (cloFrom X.env.cells scope.names []) f c') → H1 c' = some (LamX.CodeO c' q) → Q (.ref f) s') :
    wpAny (model X.prog X.w) X.A (eval (.Lambda params body scope pos) X.env) Q E s := by
  obtain ⟨ps, hP, ht, ha⟩ := hT
  refine PySem.W.kla_eval hdef ?_
  have bP : s.heap.BuiltinsAt X.mg P := TB.bm.keeps I.bk
  have hP' : s.heap.get? P = some { cls := .none, data := .fields ps } := I.hok P _ hP
  have hcl := closure_ok (env := X.env) (scope := scope) hfr
  cases hc : codeAmong pos ps.toList with
  | none =>
    refine PySem.W.kla_makeFunction (mg := X.mg) (c := c) (P := P) (ps := ps) hcl I.ok.glob (I.mod.glob.keeps I.bk) hcode (TB.code.keeps I.bk) hP' ht hc TB.gP bP fun c' ctv h' tk hx hge hlt hrec htb => ?_
    obtain ⟨c2, oc, vs, t, e2, hoc, hd, hv⟩ := hrec
    cases e2
    have nC : H c' = none := I.hok.fresh hge
    have I1 := LamX.inv_table (t' := tk) (more := #[rawInt pos.line, rawInt pos.col, .ref c']) (h' := h') I hP (fun b o hb e => hx b o hb e) htb hge ⟨oc, vs, t, hoc, hd, hv⟩
    have nPc : P ≠ c' := ne_of_none hP nC
    have eL : (ps ++ #[rawInt pos.line, rawInt pos.col, .ref c']).toList = ps.toList ++ [rawInt pos.line, rawInt pos.col, .ref c'] := by simp
    have hE : ∀ b o, H b = some o → (∀ ps, o ≠ .tbl ps) → upd (upd H P (.tbl (ps ++ #[rawInt pos.line, rawInt pos.col, .ref c']))) c' (LamX.CodeO c' (X.env.qual ++ "<lambda>")) b = some o := fun b o e n => by
      rw [upd_ne (ne_of_none e nC), upd_ne (fun z => n ps (Option.some.inj (e.symm.trans (by rw [z]; exact hP))))]
      exact e
    have S1 : Same H (upd (upd H P (.tbl (ps ++ #[rawInt pos.line, rawInt pos.col, .ref c']))) c' (LamX.CodeO c' (X.env.qual ++ "<lambda>"))) := ⟨hE, fun b e => by
      by_cases z : b = c'
      · rw [z]; exact nC
      · rw [upd_ne z] at e
        by_cases z2 : b = P
        · rw [z2, upd_same] at e; cases e
        · rw [upd_ne z2] at e; exact e, fun P' z => by
      obtain ⟨ps', a1, a2, a3⟩ := z
      by_cases hb : P' = P
      · rw [hb] at a1 ⊢
        rw [hP] at a1
        cases a1
        refine ⟨_, by rw [upd_ne nPc, upd_same], by rw [eL]; exact PySem.TriplesOk_snoc _ _ _ _ ht, fun p' cv hcv => ?_⟩
        rw [eL] at hcv
        rcases LamX.among_app _ ht hcv with z | z
        · obtain ⟨c0, q, e1, e2⟩ := a3 p' cv z
          exact ⟨c0, q, e1, hE _ _ e2 LamX.codeO_ne⟩
        · exact ⟨c', _, z, upd_same⟩
      · refine ⟨ps', by rw [upd_ne (ne_of_none a1 nC), upd_ne hb]; exact a1, a2, fun p' cv hcv => ?_⟩
        obtain ⟨c0, q, e1, e2⟩ := a3 p' cv hcv
        exact ⟨c0, q, e1, hE _ _ e2 LamX.codeO_ne⟩⟩
    have nF := I1.hok.fresh (Nat.le_refl _)
    have I2 := inv_lamC (L := ⟨X.env.qual ++ "<lambda>", params, body, scope⟩) (cl := cloFrom X.env.cells scope.names []) (t' := tk) (c := c') (pm := (X.mg "__name__").getD .none) (ctv := ctv) I1 rfl
    exact h h'.objs.size c' _ _ _ I2 (S1.trans (same_new nF _)) (S1.free nF) upd_same ((upd_ne (Nat.ne_of_lt hlt)).trans upd_same)
  | some cv =>
    obtain ⟨c', q, e, hco⟩ := ha pos cv hc
    subst e
    refine PySem.W.kla_makeFunctionHit (mg := X.mg) (c := c) (P := P) (ps := ps) hcl I.ok.glob (I.mod.glob.keeps I.bk) hcode (TB.code.keeps I.bk) hP' ht hc bP fun ctv h' tk hx hsz => ?_
    have I1 : Inv X pins σ H { s with heap := h', toks := tk } := I.kept hx
    have nF : H h'.objs.size = none := I1.hok.fresh (Nat.le_refl _)
    have I2 := inv_lamC (L := ⟨X.env.qual ++ "<lambda>", params, body, scope⟩) (cl := cloFrom X.env.cells scope.names []) (t' := tk) (c := c') (pm := (X.mg "__name__").getD .none) (ctv := ctv) I1 rfl
    exact h h'.objs.size c' q _ _ I2 (same_new nF _) nF upd_same ((upd_ne (ne_of_none hco nF)).trans hco)
/-- a lambda's making, as an expression -/
theorem pe_lamC {cd P : Addr} {params : Arguments} {body : Expr} {scope : Scope} {pos : Pos} (TB : LamX.TabB X.base X.mg cd P) (hcode : X.env.code = .ref cd) (hdef : defaultsOf params X.env = ([], [])) (hfr : ∀ y ∈ scope.names, y.2 = .free → X.env.scope.names.lookup y.1 = some .cell ∨ X.env.scope.names.lookup y.1 = some .free) :
    PE X (.Lambda params body scope pos) (fun _ H Q => TabA H P ∧ ∀ f c' q H1, Same H H1 → H f = none → H1 f = some (LamC ⟨X.env.qual ++ "<lambda>", params, body, scope⟩ (cloFrom X.env.cells scope.names []) f c') → H1 c' = some (LamX.CodeO c' q) → Q (.ref f) H1) := ⟨fun pins s σ H Q I q =>
  lam_makeC I TB hcode q.1 hdef (fun y hy e => (hfr y hy e).elim (fun z => I.ok.has _ (.inl z)) fun z => I.ok.has _ (.inr z)) fun f c' cq H1 s' I1 sm nf e1 e2 => ⟨.ref f, H1, I1, rfl, q.2 f c' cq H1 sm nf e1 e2⟩⟩
end
/-- the call of such a lambda, by its body -/
theorem lamC_run {P : Program} {w : World} {K : PySem.W.Frag} {mg : Str → Option Value} {base : Heap} {k : Nat} {N ps fr : List Str} {L : LamD} {cl : List (Str × Addr)} {t : TE} (S : NdefX.NScope N ps fr L.scope)
    (hb : ∀ (pm ctv : Value) (c : Addr) (us : List Value), us.length = ps.length → bindArgs (PySem.W.kla_fn "<lambda>" L.qual L.params L.body L.scope cl pm (.ref c) ctv) ⟨us, []⟩ = pure (ps.zip us))
    {A : Around} {outer : List Env} {s : Shared} {H : Hp} {a c : Addr} {cq : Str} {us : List Value} {vs : List V} {ws : List (Option V)} {Q : VK} (room : Room (k + 1) A) (e0 : Env0 P w K mg base A outer s H) (ha : H a = some (LamC L cl a c)) (hc : H c = some (LamX.CodeO c cq)) (C : NdefX.CellsAt cl fr ws s.heap H) (rel : Vals vs us) (hl : vs.length = ps.length)
    (body : PE (NdefX.ncx CX0 P w K mg base N ⟨"<lambda>", cq, L.params, [], L.scope, cl, c⟩ a A outer s H E0) L.body t) (q : t (NdefX.startF N vs ws) H Q) : codeAny (model P w) A (.call (.ref a) ⟨us, []⟩) (CR CX0 outer P w H s Q E0) s := by
  obtain ⟨⟨od, sl, pm, ctv, ho⟩, _, _⟩ := e0.hok a _ ha
  have lim : s.heap.NoLimit := e0.mod.nolimit.keeps fun b o e => (e0.bs b o e).1
  refine call_exprQ (cq := cq) room.depth ho rfl S.co S.gen rfl (NdefX.codeO_at e0.hok hc) ?_
  rw [hb pm ctv c us (by rw [← rel.length]; exact hl)]
  refine wpAny_pure (wpAny_newFunctionEnv S.nocell (fun ⟨n, _⟩ hy => S.par n (List.of_mem_zip hy).1) (fun h₁ hns hsb => ⟨lim.fresh _ hsb, ?_⟩) S.kind)
  have kp : ∀ b o, s.heap.get? b = some o → h₁.get? b = some o := fun b o e => hsb.extBut b o (Nat.ne_of_lt (Heap.lt_size e)) (Heap.get?_push_of_some _ e)
  have I := NdefX.inv_startN (CX := CX0) (E := E0) (f := a) (F := ⟨"<lambda>", cq, L.params, [], L.scope, cl, c⟩) (ws := ws) (tk := s.toks + (ps.zip us).length) S room.hd e0 hl rel C hns kp
  show codeAny _ _ (.expr L.body (NdefX.envF ⟨"<lambda>", cq, L.params, [], L.scope, cl, c⟩ a s.heap.objs.size)) _ _
  refine PySem.W.kla_codeExpr ?_
  refine wpAny_mono (body.run [] _ _ H Q I q) (fun v s' hq => ?_) fun e s' hq => hq
  obtain ⟨w', H', J', rv, q⟩ := hq
  exact ⟨w', H', J'.os, J'.bare, J'.base, J'.hok, rv, q⟩

/-! ### [e for x in xs], by what stands in the heap -/
theorem lcD {c : C0} {X : Cx} (gd : Gd c X) {x : Str} {px pos : Pos} {elt iter : Expr} {scope : Scope} {N : List Str} {sc : Scope} {ti te : TE} (j : Nat) (hN : c.N = N) (hsc : c.sc = sc) (ok : blkC N sc scope [(x, j)] = true) (hi : PE X iter ti) (hl : (relS scope sc).names.lookup x = some .local)
    (he : ∀ (s : Shared) (H : Hp) (C : Addr) (cl : List (Str × Addr)) (fp : List Addr), Gd (cBk c scope) (X.blk s H scope (compEnvC scope cl C X.env) fp) → PE (X.blk s H scope (compEnvC scope cl C X.env) fp) elt te) (hs : ∀ env x, foldedSetIterable iter env x = pure x := by intro _ _; rfl) :
    PE X (.ListComp elt [⟨.Name x px, iter, [], 0⟩] scope pos) (tLc (iList X.K ti) (gName j) tYes te [j]) := by
  have bk : BlkOk X.N X.env.scope scope [(x, j)] := by rw [gd.hN, gd.hsc, hN, hsc]; exact blkOk_by ok
  refine pe_lc (own := [(x, j)]) gd.calm (by rw [gd.hN]; exact gd.nd) (pi_list hi) bk (fun s H C cl fp => ?_) (fun s H C cl fp => pts_nil) (fun s H C cl fp => he s H C cl fp (gd.blk bk.kind s H C cl fp)) (hs X.env)
  have gb := gd.blk bk.kind s H C cl fp
  have hx : (X.blk s H scope (compEnvC scope cl C X.env) fp).env.scope.names.lookup x = some .local := by rw [gb.hsc]; show (relS scope c.sc).names.lookup x = _; rw [hsc]; exact hl
  exact pg_name (i := j) (by rw [gb.hN]; exact gb.nd) (bk.ix (x, j) List.mem_cons_self) (.inl hx) (.inr hx)
section
variable {c : C0} {X : Cx} {e : Expr} {es : List Expr}
theorem runT {f : Rho → Option Bool} (gd : Gd c X) (r : Rho) (b : Bool) (h : OkT c e f) (k : f r = some b) : PT X e (tQ c.T X r b) := h X gd r b k
theorem runE {f : Rho → Option W} (gd : Gd c X) (r : Rho) (w : W) (h : OkE c e f) (k : f r = some w) : PE X e (tD c.T X r w) := h X gd r w k
theorem runL {f : Rho → Option (List PyData)} (gd : Gd c X) (r : Rho) (xs : List PyData) (h : OkL c e f) (k : f r = some xs) : PE X e (tL c.T X r xs) := h X gd r xs k
theorem runA {f : Rho → Option (List W)} (gd : Gd c X) (r : Rho) (ws : List W) (h : OkA c es f) (k : f r = some ws) : PA X es (tAs c.T X r ws) := h X gd r ws k
end
theorem lcOf {c : C0} {X : Cx} (gd : Gd c X) {x : Str} {px pos : Pos} {elt iter : Expr} {scope : Scope} {N : List Str} {sc : Scope} {ti : TE} {f : Rho → Option (List PyData)} (j : Nat) (r : Rho) (xs : List PyData) (hN : c.N = N) (hsc : c.sc = sc) (ok : blkC N sc scope [(x, j)] = true) (hi : PE X iter ti) (hl : (relS scope sc).names.lookup x = some .local)
    (he : OkL (cBk c scope) elt f) (k : f r = some xs) (hs : ∀ env x, foldedSetIterable iter env x = pure x := by intro _ _; rfl) :
    PE X (.ListComp elt [⟨.Name x px, iter, [], 0⟩] scope pos) (tLc (iList X.K ti) (gName j) tYes (tL c.T X r xs) [j]) := lcD gd j hN hsc ok hi hl (fun s H C cl fp gb => runL gb r xs he k) hs
theorem lcEl {c : C0} {X : Cx} (gd : Gd c X) {x : Str} {px pos : Pos} {elt iter : Expr} {scope : Scope} {N : List Str} {sc : Scope} {ti : TE} {f : Rho → Option W} (j : Nat) (r : Rho) (w : W) (hN : c.N = N) (hsc : c.sc = sc) (ok : blkC N sc scope [(x, j)] = true) (hi : PE X iter ti) (hl : (relS scope sc).names.lookup x = some .local)
    (he : OkE (cBk c scope) elt f) (k : f r = some w) (hs : ∀ env x, foldedSetIterable iter env x = pure x := by intro _ _; rfl) :
    PE X (.ListComp elt [⟨.Name x px, iter, [], 0⟩] scope pos) (tLc (iList X.K ti) (gName j) tYes (tD c.T X r w) [j]) := lcD gd j hN hsc ok hi hl (fun s H C cl fp gb => runE gb r w he k) hs
/-! ### one list is changed -/
section
variable {H H1 H2 : Hp} {q : Addr}
theorem extn_upd {vs ws : List V} (h : H q = some (.lst vs)) : Ext q H (upd H q (.lst ws)) := ⟨fun b o n e _ => by rw [upd_ne n]; exact e, fun b n e => by rw [upd_ne n] at e; exact e, fun P t => by
  obtain ⟨ps, z1, z2, z3⟩ := t
  refine ⟨ps, by rw [upd_ne (fun z => by rw [z, h] at z1; cases z1)]; exact z1, z2, fun pos cv hc => ?_⟩
  obtain ⟨c, y, e1, e2⟩ := z3 pos cv hc
  refine ⟨c, y, e1, ?_⟩
  rw [upd_ne (fun z => by
    rw [z, h] at e2
    have e2 : HO.lst vs = LamX.CodeO q y := Option.some.inj e2
    unfold LamX.CodeO at e2
    cases e2)]
  exact e2⟩
/-- what was not there yet may change -/
theorem same_ext (e : Same H H1) (x : Ext q H1 H2) (n : H q = none) : Same H H2 := ⟨fun b o h nt => by
  have hb : b ≠ q := fun z => by rw [z, n] at h; cases h
  exact x.to b o hb (e.to b o h nt) nt, fun b h => by
  by_cases hb : b = q
  · rw [hb]; exact n
  · exact e.no b (x.no b hb h), fun P t => x.tb P (e.tb P t)⟩
theorem extn_same (x : Ext q H H1) (e : Same H1 H2) : Ext q H H2 := ⟨fun b o n h nt => e.to b o (x.to b o n h nt) nt, fun b n h => x.no b n (e.no b h), fun P t => e.tb P (x.tb P t)⟩
theorem extn_trans (x : Ext q H H1) (y : Ext q H1 H2) : Ext q H H2 := ⟨fun b o n h nt => y.to b o n (x.to b o n h nt) nt, fun b n h => x.no b n (y.no b n h), fun P t => y.tb P (x.tb P t)⟩
theorem extn_refl : Ext q H H := ⟨fun _ _ _ h _ => h, fun _ _ h => h, fun _ t => t⟩
theorem extn_of (e : Same H H1) : Ext q H H1 := ⟨fun b o _ h nt => e.to b o h nt, fun b _ h => e.no b h, e.tb⟩
theorem Ext.at (x : Ext q H H1) {b : Addr} {o : HO} (h : H b = some o) (n : b ≠ q) (nt : ∀ ps, o ≠ .tbl ps := by intro _ z; cases z) : H1 b = some o := x.to b o n h nt
theorem extn_tsame {vs : List V} (x : Ext q H H1) (h : H q = some (.lst vs)) : TSame H H1 := fun a xs r => by
  rcases r with r | ⟨o, r⟩
  · exact .inl (x.at r (fun z => by rw [z, h] at r; cases r))
  · exact .inr ⟨o, x.at r (fun z => by rw [z, h] at r; cases r)⟩
end
theorem runEx {c : C0} {X : Cx} {e : Expr} {f : Rho → Option W} (gd : Gd c X) (h : OkE c e f) : PE X e (fun s H Q => ∃ r w, f r = some w ∧ tD c.T X r w s H Q) := pe_all fun r w k => h X gd r w k
/-! ### data with a cell hidden -/
section
variable {K : PySem.W.Frag} {H H' : Hp} {c : Addr} {o : Obj}
theorem sql_del (e : H c = some (CellF c o)) {a : Addr} {xs : List V} (h : SqL K H a xs) : SqL K (del H c) a xs := by
  rcases h with (h | ⟨ob, h⟩) | h
  · exact .inl (.inl (by rw [del_ne (fun z => by rw [z, e] at h; cases h)]; exact h))
  · exact .inl (.inr ⟨ob, by rw [del_ne (fun z => by rw [z, e] at h; cases h)]; exact h⟩)
  · exact .inr h
theorem sqt_del (e : H c = some (CellF c o)) {a : Addr} {xs : List V} (h : SqT K H a xs) : SqT K (del H c) a xs := by
  rcases h with (h | ⟨ob, h⟩) | h
  · exact .inl (.inl (by rw [del_ne (fun z => by rw [z, e] at h; cases h)]; exact h))
  · exact .inl (.inr ⟨ob, by rw [del_ne (fun z => by rw [z, e] at h; cases h)]; exact h⟩)
  · exact .inr h
mutual
theorem dp_del (e : H c = some (CellF c o)) : ∀ (d : PyData) (v : V), Dp K H v d → Dp K (del H c) v d
  | .none, _, h => by cases h; exact .non
  | .bool b, _, h => by cases h; exact .bl b
  | .int i, _, h => by cases h; exact .int i
  | .str x, _, h => by cases h; exact .str x
  | .list ds, _, h => by
    cases h with
    | lst hs ha => exact .lst (sql_del e hs) (dpa_del e ds _ ha)
  | .tuple ds, _, h => by
    cases h with
    | tup hs ha => exact .tup (sqt_del e hs) (dpa_del e ds _ ha)
  | .dict _, _, h => by
    cases h with
    | dct h => exact .dct (by rw [del_ne (fun z => by rw [z, e] at h; cases h)]; exact h)
theorem dpa_del (e : H c = some (CellF c o)) : ∀ (ds : List PyData) (vs : List V), DpAll K H vs ds → DpAll K (del H c) vs ds
  | [], _, h => by cases h; exact .nil
  | d :: ds, _, h => by
    cases h with
    | cons h1 h2 => exact .cons (dp_del e d _ h1) (dpa_del e ds _ h2)
end
theorem tab_del (e : H c = some (CellF c o)) {P : Addr} (t : TabA H P) : TabA (del H c) P := by
  obtain ⟨ps, z1, z2, z3⟩ := t
  refine ⟨ps, by rw [del_ne (fun z => by rw [z, e] at z1; cases z1)]; exact z1, z2, fun pos cv hc => ?_⟩
  obtain ⟨c0, q, e1, e2⟩ := z3 pos cv hc
  refine ⟨c0, q, e1, ?_⟩
  rw [del_ne (fun z => by
    rw [z, e] at e2
    have e2 : CellF c o = LamX.CodeO c q := Option.some.inj e2
    unfold LamX.CodeO at e2
    cases e2)]
  exact e2
theorem tb_del {T : Tab} {mg : Str → Option Value} (e : H c = some (CellF c o)) (h : TbOk T K mg H) : TbOk T K mg (del H c) := fun x hx c' P q => tab_del e (h x hx c' P q)
/-- the cell put back -/
theorem same_thaw (sm : Same (del H c) H') (e : H c = some (CellF c o)) (n : H' c = none) : Same H (upd H' c (CellF c o)) := ⟨fun b u h nt => by
  by_cases z : b = c
  · rw [z, e] at h
    rw [z, upd_same]
    exact h
  · rw [upd_ne z]
    exact sm.to b u (by rw [del_ne z]; exact h) nt, fun b h => by
  by_cases z : b = c
  · rw [z, upd_same] at h; cases h
  · rw [upd_ne z] at h
    have := sm.no b h
    rw [del_ne z] at this
    exact this, fun P t => (same_new n _).tb P (sm.tb P (tab_del e t))⟩
/-- the cell taken away again -/
theorem same_hold (n : H c = none) (sm : Same (upd H c (CellF c o)) H') : Same H (del H' c) := by
  have s0 : Same H (upd H c (CellF c o)) := same_new n _
  have e' : H' c = some (CellF c o) := sm.at upd_same
  exact ⟨fun b u h nt => by
    rw [del_ne (fun z => by rw [z, n] at h; cases h)]
    exact sm.to b u (s0.to b u h nt) nt, fun b h => by
    by_cases z : b = c
    · rw [z]; exact n
    · rw [del_ne z] at h
      exact s0.no b (sm.no b h), fun P t => tab_del e' (sm.tb P (s0.tb P t))⟩
end
/-! ### the law's own def -/
theorem run_ofC {P : Program} {w : World} {K : PySem.W.Frag} {mg : Str → Option Value} {base : Heap} {k : Nat} {f : Addr} {x qual : Str} {st : Stmt} {fd : FuncData} {N ps : List Str} {sp : Sp}
    (FN : Fun K x qual st f fd) (S : FnScope N ps (defScope st)) (long : ∀ vs M Q E, sp vs M Q E → vs.length = ps.length)
    (body : ∀ (cdv : Value) (A : Around) (env : List Env) (s : Shared) (M : Hp) (vs : List V) (Q : VK) (E : XK), fd.code = cdv → A.guards = some [] → Room k (A.deeper (envOfC qual (defScope st) s.heap.objs.size f cdv)) → sp vs M Q E →
      ∃ t, PSs (cxOf CX0 P w K mg base N qual (defScope st) f cdv A env s M E).nox (defBody st) t ∧ t ⟨fun _ M' => Q .non M', Q, fun _ _ => False, fun _ _ => False⟩ (L2.start N vs) M) : RunG P w K mg base (k + 1) f fd ps sp := by
  obtain ⟨oc, od, kV, doc, pm, an, cdv, ct, osl, rfl, lk, hcd⟩ := FN.ex
  intro A env s M given us vs Q E hg room e0 hb rel hsp
  have hl := long _ _ _ _ hsp
  refine ⟨hl, ?_⟩
  have KX : K.In s.heap := e0.mod.kin.keeps fun b o z => (e0.bs b o z).1
  have lim : s.heap.NoLimit := e0.mod.nolimit.keeps fun b o z => (e0.bs b o z).1
  refine codeAny_call_function room.depth (KX _ _ lk) rfl S.co S.gen rfl (PySem.W.codeRec_of KX hcd) (hb _ _ _ _ (wpAny_newFunctionEnv_cells S.kind ?_ ?_))
  · rintro ⟨n, v⟩ hy
    rcases S.par n (List.of_mem_zip hy).1 with q | q
    · exact .inl q
    · exact .inr ⟨q, PySem.W.cellsFrom_some _ _ _ (.inl q)⟩
  · intro own he s1 z
    subst he
    refine ⟨lim.keeps z.toInCall.keep, codeAny_func ?_⟩
    obtain ⟨t, ht, hq⟩ := body cdv A env s M vs Q E rfl hg (room.deeper _) hsp
    have I := inv_start (CX := CX0) (E := E) S room.hd e0 hl rel z
    refine wpAny_mono (ht.nox.run [] s1 (L2.start N vs) M _ I hq) (fun out s' hs => ?_) fun e s' hs => hs
    cases out with
    | next => obtain ⟨st', M', J, q⟩ := hs; exact ⟨V.non, M', J.os, J.bare, J.base, J.hok, rfl, q⟩
    | ret u => obtain ⟨v, st', M', J, rv, q⟩ := hs; exact ⟨v, M', J.os, J.bare, J.base, J.hok, rv, q⟩
    | brk => obtain ⟨_, _, _, q⟩ := hs; exact q.elim
    | cont => obtain ⟨_, _, _, q⟩ := hs; exact q.elim
section
variable {X : Cx} {k : Nat} {f : Addr} {fd : FuncData} {ps : List Str} {sp : Sp} {t : TA} {x y : Str} {e : Expr} {es : List Expr} {p pos : Pos} {cell : Addr} {i : Nat}
theorem pe_or2 {t1 t2 : TE} (h1 : PE X e t1) (h2 : PE X e t2) : PE X e (fun s H Q => t1 s H Q ∨ t2 s H Q) := ⟨fun pins s σ H Q I h => h.elim (h1.run pins s σ H Q I) (h2.run pins s σ H Q I)⟩
/-- f(e, ..) as above, while a cell of the running def is held as it is -/
theorem pe_callGC (F : RunG X.prog X.w X.K X.mg X.base k f fd ps sp) (long : ∀ vs M Q E, sp vs M Q E → vs.length = ps.length) (hgu : X.A.guards = some []) (room : Room k X.A) (hgl : Gl X x) (hmg : X.mg x = some (.ref f)) (hkp : PySem.W.keepIn X.K (.ref f) = true) (hbi : Binds X.K fd ps [])
    (hcell : X.env.cells.lookup y = some cell) (hky : X.env.scope.names.lookup y = some .cell) (hfn : X.fn y = true) (hNy : X.N[i]? = some y)
    (ha : PA X (e :: es) t) (hdb : (x == ("__debug__" : Str)) = false := by decide) (he : starEach (e :: es) X.env = (false, eval e X.env) :: starEach es X.env := by rfl) (hpl : (backTo pos (starEach es X.env)).any (·.1) = false := by rfl) :
    PE X (.Call (.Name x p) (e :: es) [] pos) (fun s H Q => t s H fun vs H1 => ∃ v, s[i]? = some (some v) ∧ ∀ o u, H1 cell = none → o.data = .cell (some u) → RelV v u → sp vs (upd H1 cell (CellF cell o)) (fun x H' => Q x (del H' cell)) E0) := ⟨fun pins s σ H Q I q => by
  refine wpAny_Call_Name_kw (ld_glob I hgl hmg ?_ hdb)
  refine PySem.W.callWith_K (h₀ := X.base) I.ok.mod.kin hkp (thn (ha.run pos pins s σ H _ I q) fun us s1 ⟨vs, H1, I1, rel, v, hs, q1⟩ => ⟨I1.kIn, ?_⟩) he hpl
  have nc := I1.freeC y cell hcell
  obtain ⟨m, hn, hl⟩ := I1.loc
  obtain ⟨u, ru, l⟩ := hl i y v hNy hs (.inr (.inl hky))
  obtain ⟨o, hget, hdat⟩ : s1.heap.IsCell cell (some u) := by
    rcases l with ⟨z, _⟩ | ⟨_, a', ha', hc⟩
    · have z' : X.env.scope.names.lookup y = some .local := z
      rw [hky] at z'
      cases z'
    · rw [hcell] at ha'
      cases ha'
      exact hc
  have q2 := q1 o u nc hdat ru
  have hlen := long _ _ _ _ q2
  have bi := hbi s1 us I1.kIn (by rw [List.append_nil, ← rel.length]; exact hlen)
  rw [List.append_nil] at bi
  have hcab : X.s_0.heap.objs.size ≤ cell := I1.ok.cab y cell hfn hcell
  have hbn : X.base.get? cell = none := Heap.get?_none_of_le (Nat.le_trans I1.ok.bsz hcab)
  have hfr : cell ∉ frs X.stack := fun z => by
    rcases List.mem_cons.mp (I1.stkSub cell z) with z | z
    · exact I1.cne y cell hcell z
    · obtain ⟨_, ob, ho, _⟩ := I1.ok.funs.mem z
      exact absurd (Nat.lt_of_lt_of_le (Heap.lt_size ho) hcab) (Nat.lt_irrefl _)
  exact call_end I1 (cr_hold nc hget (F X.A X.stack s1 _ ⟨us, []⟩ us vs _ E0 hgu room (env_add I1.env0 nc hget hbn hfr) bi rel q2).2 fun v H' h => h)⟩
end
end Nm
namespace Nm
open PySem PyProof.Rows L2

/-! ### the end of a law that shows its makers' functions: the makers' tables are there and empty -/
/-- data that neither the script nor an empty table has -/
def odd : Data → Bool
  | .seq _ _ => false
  | .fields us => us.size != 0
  | _ => true
/-- where the law starts: the tables are there, and but for them only the script may be, held as it is -/
structure Begin (K : PySem.W.Frag) (cs : List (Addr × Addr)) (a : Addr) (M : Hp) : Prop where
  tb : ∀ p ∈ cs, M p.2 = some (.tbl #[])
  un : ∀ b, M b = none ∨ (∃ p ∈ cs, p.2 = b) ∨ (b = a ∧ K.lookup b = none ∧ ∃ o xs, M b = some (HO.frz o (.lst xs)))
/-- the tables as the top left them -/
structure Clean (K : PySem.W.Frag) (cs : List (Addr × Addr)) (h : Heap) : Prop where
  at_ : ∀ p ∈ cs, h.get? p.2 = some { cls := .none, data := .fields #[] }
  out : ∀ p ∈ cs, K.lookup p.2 = none
  code : ∀ p ∈ cs, PySem.W.CodeHd h p.1 p.2
section
variable {P : Program} {w : World} {K : PySem.W.Frag} {mg mb : Str → Option Value} {k : Nat} {f a : Addr} {fd : FuncData} {x : Str} {sp : Sp} {s0 : Shared} {vs : List Value} {ns : List Int} {cs : List (Addr × Addr)} {M : Hp}
theorem begin_free (T : Clean K cs s0.heap) (obj : s0.heap.get? a = some { cls := .type "list", data := .seq vs.toArray }) (S : Begin K cs a M) {b : Addr} {o : Obj} (e : s0.heap.get? b = some o) (q : odd o.data = true) : M b = none := by
  rcases S.un b with n | ⟨p, hp, rfl⟩ | ⟨rfl, _⟩
  · exact n
  · cases (T.at_ p hp).symm.trans e
    exact absurd q (by decide)
  · cases obj.symm.trans e
    cases q
theorem begin_seen (T : Clean K cs s0.heap) (obj : s0.heap.get? a = some { cls := .type "list", data := .seq vs.toArray }) (S : Begin K cs a M) {b : Addr} {o : Obj} (e : s0.heap.get? b = some o) (q : odd o.data = true) : (hidT s0.heap M).get? b = some o := hidT_get e (begin_free T obj S e q)
theorem begin_ns (T : Clean K cs s0.heap) (obj : s0.heap.get? a = some { cls := .type "list", data := .seq vs.toArray }) (S : Begin K cs a M) {b : Addr} {m : Str → Option Value} (z : s0.heap.Ns b m) : (hidT s0.heap M).Ns b m := by
  obtain ⟨o, es, ep, e, d, r⟩ := z
  exact ⟨o, es, ep, begin_seen T obj S e (by rw [d]; rfl), d, r⟩
theorem begin_kin (T : Clean K cs s0.heap) (obj : s0.heap.get? a = some { cls := .type "list", data := .seq vs.toArray }) (S : Begin K cs a M) (KX : K.In s0.heap) : K.In (hidT s0.heap M) := fun b o e => by
  refine hidT_get (KX b o e) ?_
  rcases S.un b with n | ⟨p, hp, rfl⟩ | ⟨_, z, _⟩
  · exact n
  · cases (T.out p hp).symm.trans e
  · cases z.symm.trans e
theorem begin_tab (T : Clean K cs s0.heap) (obj : s0.heap.get? a = some { cls := .type "list", data := .seq vs.toArray }) (S : Begin K cs a M) (gl : s0.heap.Ns mainGlobals mg)
    (bm : ∃ (u : Addr) (ob : Obj), mg "__builtins__" = some (.ref u) ∧ u ≠ builtinsNs ∧ s0.heap.get? u = some ob ∧ ob.cls = .type "module" ∧ ob.dict = some builtinsNs ∧ ob.data = .plain) : ∀ p ∈ cs, LamX.TabB (hidT s0.heap M) mg p.1 p.2 := fun p hp => by
  obtain ⟨og, eg, ng, ag, dg, _⟩ := gl
  have at_p := T.at_ p hp
  obtain ⟨u, ob, b1, b2, b3, b4, b5, b6⟩ := bm
  obtain ⟨o, us, f1, f2, f3, f4, f5, f6, f7, e, c1, c2, c3, c4⟩ := T.code p hp
  have big : odd o.data = true := by
    rw [c2]
    obtain ⟨hi, _⟩ := Array.getElem?_eq_some_iff.mp c3
    show (us.size != 0) = true
    rw [bne_iff_ne]
    omega
  refine ⟨⟨o, us, f1, f2, f3, f4, f5, f6, f7, begin_seen T obj S e big, c1, c2, c3, c4⟩, ⟨u, ob, b1, b2, ?_, ?_, begin_seen T obj S b3 (by rw [b6]; rfl), b4, b5, b6⟩, ?_⟩
  · intro z
    subst z
    cases ag.symm.trans b3
    cases dg.symm.trans b6
  · intro z
    subst z
    cases at_p.symm.trans b3
    cases b6
  · intro z
    rw [z] at ag
    cases at_p.symm.trans ag
    cases dg
theorem call_tab (KX : K.In s0.heap) (gl : s0.heap.Ns mainGlobals mg) (bu : s0.heap.Ns builtinsNs mb) (bb : ∀ x : Str, x ≠ "__name__" → mb x = bootBuiltins x) (nl : s0.heap.NoLimit) (gn : s0.gens = #[])
    (bm : ∃ (u : Addr) (ob : Obj), mg "__builtins__" = some (.ref u) ∧ u ≠ builtinsNs ∧ s0.heap.get? u = some ob ∧ ob.cls = .type "module" ∧ ob.dict = some builtinsNs ∧ ob.data = .plain)
    (obj : s0.heap.get? a = some { cls := .type "list", data := .seq vs.toArray }) (room : Room k callerA) (T : Clean K cs s0.heap) (S : Begin K cs a M) (hok : HOk P w M s0.heap)
    (R : ∀ base : Heap, K.In base → base.Ns mainGlobals mg → (∀ p ∈ cs, LamX.TabB base mg p.1 p.2) → RunG P w K mg base k f fd [x] sp) (bind : ∀ (s : Shared) (u : Value), BindsTo s fd ⟨[u], []⟩ [(x, u)])
    (hsp : sp [.ref a] M (fun v _ => v = .bl true) fun _ _ _ => False) :
    codeAny (model P w) callerA (.call (.ref f) ⟨[.ref a], []⟩) (fun r s' => r = .ok (.ret (.bool true)) ∧ OldK s0.heap s'.heap ∧ s'.os = s0.os ∧ AllBare s'.gens) s0 := by
  have kin := begin_kin T obj S KX
  have ns_ : ∀ {b : Addr} {m : Str → Option Value}, s0.heap.Ns b m → (hidT s0.heap M).Ns b m := fun z => begin_ns T obj S z
  have lim : (hidT s0.heap M).NoLimit := by
    obtain ⟨mc, h1, h2⟩ := nl
    exact ⟨mc, ns_ h1, h2⟩
  have e0 : Env0 P w K mg (hidT s0.heap M) callerA [] s0 M := ⟨rfl, ⟨kin, ns_ gl, ⟨mb, ns_ bu, bb⟩, lim⟩, fun b o e => of_hidT e, Nat.le_of_eq (hidT_size _ _), trivial, fun b z => (List.not_mem_nil z).elim, hok, .of_eq gn⟩
  have run := (R _ kin (ns_ gl) (begin_tab T obj S gl bm) callerA [] s0 M ⟨[.ref a], []⟩ [.ref a] [.ref a] _ _ rfl room e0 (bind s0 (.ref a)) (.cons rfl .nil) hsp).2
  refine codeAny_mono run fun r s' z => ?_
  match r, z with
  | .ok (.ret u), ⟨v, M', os, bare, un, hok', rel, q⟩ =>
    cases (q : v = .bl true)
    cases (rel : u = Value.bool true)
    have more : ∀ p ∈ cs, ∃ us : Array Value, s'.heap.get? p.2 = some { cls := .none, data := .fields us } := fun p hp => by
      obtain ⟨us, e⟩ := un.tbls p.2 #[] (S.tb p hp)
      exact ⟨_, hok' p.2 _ e⟩
    have step : ∀ b o, s0.heap.get? b = some o → s'.heap.get? b = some o ∨ ∃ p ∈ cs, p.2 = b := fun b o e => by
      rcases S.un b with n | t | ⟨_, _, ob, xs, n⟩
      · exact .inl (un.keep b o e n (fun z => (List.not_mem_nil z).elim) List.not_mem_nil)
      · exact .inr t
      · have e1 := (hok b _ n).1
        rw [e] at e1
        cases e1
        exact .inl (hok' b _ (un.frzs b _ _ n)).1
    refine ⟨rfl, ⟨fun b o e => ?_, fun b o e => ?_⟩, os, bare⟩
    · rcases step b o e with z | ⟨p, hp, rfl⟩
      · exact .inl z
      · obtain ⟨us, e2⟩ := more p hp
        cases (T.at_ p hp).symm.trans e
        exact .inr (.inl ⟨((T.code p hp).tab (T.at_ p hp)).isCodeTable, rfl, #[], us, rfl, by rw [Array.empty_append]; exact e2⟩)
    · rcases step b o e with z | ⟨p, hp, rfl⟩
      · exact ⟨o, z⟩
      · obtain ⟨us, e2⟩ := more p hp
        exact ⟨_, e2⟩
open Classical in
/-- the tables, and u ahead of them -/
noncomputable def tabH (cs : List (Addr × Addr)) (u : Hp) : Hp := fun b => if ∃ p ∈ cs, p.2 = b then some (.tbl #[]) else u b
theorem tabH_at {u : Hp} {b : Addr} (h : ∃ p ∈ cs, p.2 = b) : tabH cs u b = some (.tbl #[]) := if_pos h
theorem tabH_off {u : Hp} {b : Addr} (h : ¬ ∃ p ∈ cs, p.2 = b) : tabH cs u b = u b := if_neg h
theorem tabH_ok {u : Hp} (T : Clean K cs s0.heap) (ok : ∀ b v, u b = some v → ObjOk P w (tabH cs u) s0.heap b v) : HOk P w (tabH cs u) s0.heap := fun b v z => by
  by_cases h : ∃ p ∈ cs, p.2 = b
  · rw [tabH_at h] at z
    cases z
    obtain ⟨p, hp, rfl⟩ := h
    exact T.at_ p hp
  · rw [tabH_off h] at z
    exact ok b v z
theorem lawG_tab (KX : K.In s0.heap) (gl : s0.heap.Ns mainGlobals mg) (bu : s0.heap.Ns builtinsNs mb) (bb : ∀ x : Str, x ≠ "__name__" → mb x = bootBuiltins x) (nl : s0.heap.NoLimit) (gn : s0.gens = #[])
    (bm : ∃ (u : Addr) (ob : Obj), mg "__builtins__" = some (.ref u) ∧ u ≠ builtinsNs ∧ s0.heap.get? u = some ob ∧ ob.cls = .type "module" ∧ ob.dict = some builtinsNs ∧ ob.data = .plain)
    (obj : s0.heap.get? a = some { cls := .type "list", data := .seq vs.toArray }) (nums : IntsAre vs ns) (few : ns.length ≤ sizeLine) (room : Room k callerA) (T : Clean K cs s0.heap)
    (R : ∀ base : Heap, K.In base → base.Ns mainGlobals mg → (∀ p ∈ cs, LamX.TabB base mg p.1 p.2) → RunG P w K mg base k f fd [x] sp) (bind : ∀ (s : Shared) (u : Value), BindsTo s fd ⟨[u], []⟩ [(x, u)])
    (hsp : ∀ M : Hp, (∀ p ∈ cs, M p.2 = some (.tbl #[])) → SqL K M a (ns.map V.int) → sp [.ref a] M (fun v _ => v = .bl true) fun _ _ _ => False) :
    codeAny (model P w) callerA (.call (.ref f) ⟨[.ref a], []⟩) (fun r s' => r = .ok (.ret (.bool true)) ∧ OldK s0.heap s'.heap ∧ s'.os = s0.os ∧ AllBare s'.gens) s0 := by
  have rel := vals_ints nums
  have tb : ∀ u : Hp, ∀ p ∈ cs, tabH cs u p.2 = some (.tbl #[]) := fun u p hp => tabH_at ⟨p, hp, rfl⟩
  have aT : ¬ ∃ p ∈ cs, p.2 = a := fun ⟨p, hp, e⟩ => by
    have q := T.at_ p hp
    rw [e, obj] at q
    cases q
  cases own : K.lookup a with
  | some o =>
    cases obj.symm.trans (KX a o own)
    refine call_tab KX gl bu bb nl gn bm obj room T (M := tabH cs fun _ => none) ⟨tb _, fun b => ?_⟩ (tabH_ok T fun b v z => nomatch (z : (none : Option HO) = some v)) R bind (hsp _ (tb _) (.inr ⟨_, vs.toArray, _, own, rfl, rfl, rfl, by rw [List.size_toArray, nums.length]; exact few, by simpa using rel⟩))
    by_cases h : ∃ p ∈ cs, p.2 = b
    · exact .inr (.inl h)
    · exact .inl (tabH_off h)
  | none =>
    let o : Obj := { cls := .type "list", data := .seq vs.toArray }
    let u : Hp := fun b => if b = a then some (HO.frz o (.lst (ns.map V.int))) else none
    have at_a : u a = some (HO.frz o (.lst (ns.map V.int))) := if_pos rfl
    refine call_tab KX gl bu bb nl gn bm obj room T (M := tabH cs u) ⟨tb _, fun b => ?_⟩ (tabH_ok T fun b v z => ?_) R bind (hsp _ (tb _) (.inl (.inr ⟨o, (tabH_off aT).trans at_a⟩)))
    · by_cases h : ∃ p ∈ cs, p.2 = b
      · exact .inr (.inl h)
      · by_cases hb : b = a
        · subst hb
          exact .inr (.inr ⟨rfl, own, _, _, (tabH_off h).trans at_a⟩)
        · exact .inl ((tabH_off h).trans (if_neg hb))
    · by_cases hb : b = a
      · subst hb
        cases at_a.symm.trans z
        exact ⟨obj, by rw [List.length_map]; exact few, vs, _, rel, obj⟩
      · cases (show u b = none from if_neg hb).symm.trans z
end
section
variable {l : PySem.W.OpenLaw} {n k : Nat} {q : Program} {loose : List Str} {XP : (Str → Option Value) → Heap → Prop} {YP : World → Heap → Prop} {d : DefRec} {x : Str}
theorem end_runtab (T : Tab) (most : l.most = some n) (fits : n ≤ 63) (plain : d.params.defaults = []) (room : Room k callerA)
    (F : ∀ (w : World) (mg : Str → Option Value) (fa : Addr) (h : Heap), YP w h → h.Ns mainGlobals mg → mg d.name = some (.ref fa) → ∃ (K : PySem.W.Frag) (fd : FuncData), K.In h ∧ (∀ p ∈ lkc T K mg, h.get? p.2 = some { cls := .none, data := .fields #[] } ∧ K.lookup p.2 = none ∧ PySem.W.CodeHd h p.1 p.2) ∧
      (∀ (s : Shared) (u : Value), BindsTo s fd ⟨[u], []⟩ [(x, u)]) ∧ ∀ base : Heap, K.In base → base.Ns mainGlobals mg → (∀ p ∈ lkc T K mg, LamX.TabB base mg p.1 p.2) → RunG l.prog w K mg base k fa fd [x] (spLaw T K mg)) : PySem.W.WalkO q loose XP YP l.row.toRowW d [] (fun f vs => PySem.call f vs) :=
  Att.attach_callB most plain fun w s₀ s1 mg mb fa o pm cd doc a vs ns G Y ho hd hcd hmg obj nums few bits gn => by
    obtain ⟨K, fd, KX, hT, bind, R⟩ := F w mg fa _ Y G.T.g hmg
    refine lawG_tab KX G.T.g G.T.b G.T.builtins G.T.nolimit gn G.T.bmain obj nums (Nat.le_trans few (Nat.le_trans fits (by decide))) room ⟨fun p hp => (hT p hp).1, fun p hp => (hT p hp).2.1, fun p hp => (hT p hp).2.2⟩ R bind fun M hM hS => ?_
    exact ⟨a, ns, rfl, hS, Nat.le_trans few fits, bits, tb_nil hM, fun _ => rfl⟩
end
end Nm
namespace Nm
open PySem L2
/-! ### terms -/
inductive Mkr where
  | B | C | I | K | S
  deriving DecidableEq
def Mkr.s : Mkr → Str
  | .B => "B"
  | .C => "C"
  | .I => "I"
  | .K => "K"
  | .S => "S"
def Mkr.c : Mkr → Nat
  | .B => 66
  | .C => 67
  | .I => 73
  | .K => 75
  | .S => 83
inductive Tm where
  | nm (n : Int)
  | mk (m : Mkr)
  | ap (a b : Tm)
  | fn (b : Tm)
  deriving DecidableEq
def Tm.d : Tm → PyData
  | .nm n => .int n
  | .mk m => .str m.s
  | .ap a b => .tuple [a.d, b.d]
  | .fn b => .tuple [.str "fn", b.d]
def Tm.dep : Tm → Nat
  | .nm _ => 0
  | .mk _ => 0
  | .ap a b => max a.dep b.dep + 1
  | .fn b => b.dep + 1
theorem imm_d : ∀ t : Tm, imm t.d = true
  | .nm n => by simp only [Tm.d, imm]
  | .mk m => by simp only [Tm.d, imm]
  | .ap a b => by simp only [Tm.d, imm, imms, imm_d a, imm_d b]; rfl
  | .fn b => by simp only [Tm.d, imm, imms, imm_d b]; rfl
theorem lay_mk (m : Mkr) : (PyData.str m.s).canLay0 = true := by cases m <;> decide +kernel
theorem lay_fn : (PyData.str "fn").canLay0 = true := by decide +kernel
theorem lay_d : ∀ t : Tm, t.d.canLay0 = true
  | .nm n => by simp only [Tm.d, PyData.canLay0]
  | .mk m => lay_mk m
  | .ap a b => by simp only [Tm.d, PyData.canLay0, PyData.canLayAll0, lay_d a, lay_d b]; rfl
  | .fn b => by
    have h := lay_fn
    simp only [Tm.d, PyData.canLay0, PyData.canLayAll0, lay_d b] at h ⊢
    rw [h]; rfl
theorem dep_d : ∀ t : Tm, t.d.depth = t.dep
  | .nm n => by simp only [Tm.d, PyData.depth, Tm.dep]
  | .mk m => by simp only [Tm.d, PyData.depth, Tm.dep]
  | .ap a b => by simp only [Tm.d, PyData.depth, PyData.depthAll, Tm.dep, dep_d a, dep_d b]; omega
  | .fn b => by simp only [Tm.d, PyData.depth, PyData.depthAll, Tm.dep, dep_d b]; omega
theorem mk_ne_fn (m : Mkr) : (m.s == ("fn" : Str)) = false := by cases m <;> decide +kernel
theorem fn_ne_mk (m : Mkr) : (("fn" : Str) == m.s) = false := by cases m <;> decide +kernel
theorem mk_eq (m n : Mkr) : (m.s == n.s) = decide (m = n) := by cases m <;> cases n <;> decide +kernel
theorem eqv_fn (t : Tm) : PyData.eqv (.str "fn") t.d = false := by
  cases t with
  | mk m => simp only [Tm.d, PyData.eqv]; exact fn_ne_mk m
  | _ => simp only [Tm.d, PyData.eqv]
theorem eqv_fn2 (t : Tm) : PyData.eqv t.d (.str "fn") = false := by
  cases t with
  | mk m => simp only [Tm.d, PyData.eqv]; exact mk_ne_fn m
  | _ => simp only [Tm.d, PyData.eqv]
theorem fn_self : PyData.eqv (.str "fn") (.str "fn") = true := by decide +kernel
theorem eqv_pair (a b c e : PyData) : PyData.eqv (.tuple [a, b]) (.tuple [c, e]) = (PyData.eqv a c && PyData.eqv b e) := by
  have h : PyData.eqv (.tuple [a, b]) (.tuple [c, e]) = (PyData.eqv a c && (PyData.eqv b e && true)) := by rw [PyData.eqv.eq_8, PyData.eqvAll.eq_2, PyData.eqvAll.eq_2, PyData.eqvAll.eq_1]
  rw [h, Bool.and_true]
theorem eqv_d : ∀ t u : Tm, PyData.eqv t.d u.d = decide (t = u)
  | .nm m, .nm n => by simp only [Tm.d, PyData.eqv, Tm.nm.injEq]; exact Bool.beq_eq_decide_eq m n
  | .nm m, .mk n => by simp [Tm.d, PyData.eqv]
  | .nm m, .ap a b => by simp [Tm.d, PyData.eqv]
  | .nm m, .fn b => by simp [Tm.d, PyData.eqv]
  | .mk m, .nm n => by simp [Tm.d, PyData.eqv]
  | .mk m, .mk n => by simp only [Tm.d, PyData.eqv, Tm.mk.injEq]; exact mk_eq m n
  | .mk m, .ap a b => by simp [Tm.d, PyData.eqv]
  | .mk m, .fn b => by simp [Tm.d, PyData.eqv]
  | .ap a b, .nm n => by simp [Tm.d, PyData.eqv]
  | .ap a b, .mk n => by simp [Tm.d, PyData.eqv]
  | .ap a b, .ap c e => by
    show PyData.eqv (.tuple [a.d, b.d]) (.tuple [c.d, e.d]) = _
    rw [eqv_pair, eqv_d a c, eqv_d b e]
    by_cases h1 : a = c <;> by_cases h2 : b = e <;> simp [h1, h2]
  | .ap a b, .fn e => by
    show PyData.eqv (.tuple [a.d, b.d]) (.tuple [.str "fn", e.d]) = _
    rw [eqv_pair, eqv_fn2 a]
    simp
  | .fn b, .nm n => by simp [Tm.d, PyData.eqv]
  | .fn b, .mk n => by simp [Tm.d, PyData.eqv]
  | .fn b, .ap c e => by
    show PyData.eqv (.tuple [.str "fn", b.d]) (.tuple [c.d, e.d]) = _
    rw [eqv_pair, eqv_fn c]
    simp
  | .fn b, .fn e => by
    show PyData.eqv (.tuple [.str "fn", b.d]) (.tuple [.str "fn", e.d]) = _
    rw [eqv_pair, fn_self, eqv_d b e]
    simp
theorem eqD_d (t u : Tm) : eqD t.d u.d = decide (t = u) := by rw [← eqD_eqv]; exact eqv_d t u
theorem eqD_fn (t : Tm) : eqD t.d (.str "fn") = false := by rw [← eqD_eqv]; exact eqv_fn2 t
theorem eqOk_d {k : Nat} {t u : Tm} (h : min t.dep u.dep ≤ 199 + 16 * k) : eqOk k t.d u.d = true := by
  have l1 := lay_d t
  have e1 := dep_d t
  have l2 := lay_d u
  have e2 := dep_d u
  cases t with
  | nm n => cases u <;> rfl
  | mk m => cases u <;> rfl
  | ap a b =>
    cases u with
    | nm n => rfl
    | mk m => rfl
    | ap c e =>
      simp only [Tm.d, PyData.canLay0] at l1 l2
      simp only [Tm.d] at e1 e2 ⊢
      simp only [eqOk, l1, l2, Bool.and_true, Bool.true_and, e1, e2]
      exact decide_eq_true h
    | fn e =>
      simp only [Tm.d, PyData.canLay0] at l1 l2
      simp only [Tm.d] at e1 e2 ⊢
      simp only [eqOk, l1, l2, Bool.and_true, Bool.true_and, e1, e2]
      exact decide_eq_true h
  | fn b =>
    cases u with
    | nm n => rfl
    | mk m => rfl
    | ap c e =>
      simp only [Tm.d, PyData.canLay0] at l1 l2
      simp only [Tm.d] at e1 e2 ⊢
      simp only [eqOk, l1, l2, Bool.and_true, Bool.true_and, e1, e2]
      exact decide_eq_true h
    | fn e =>
      simp only [Tm.d, PyData.canLay0] at l1 l2
      simp only [Tm.d] at e1 e2 ⊢
      simp only [eqOk, l1, l2, Bool.and_true, Bool.true_and, e1, e2]
      exact decide_eq_true h
theorem wEq_d {k : Nat} {t u : Tm} (h : min t.dep u.dep ≤ 199 + 16 * k) : wEq k (.d t.d) (.d u.d) = some (.d (.bool (decide (t = u)))) := by
  simp only [wEq, eqOk_d h, eqD_d, if_true]
theorem wNe_d {k : Nat} {t u : Tm} (h : min t.dep u.dep ≤ 199 + 16 * k) : wNe k (.d t.d) (.d u.d) = some (.d (.bool (!decide (t = u)))) := by
  simp only [wNe, eqOk_d h, eqD_d, if_true]
theorem wEq_fn {k : Nat} (t : Tm) : wEq k (.d t.d) (.d (.str "fn")) = some (.d (.bool false)) := by
  have h : eqOk k t.d (.str "fn") = true := by cases t <;> rfl
  simp only [wEq, h, eqD_fn, if_true]
theorem wNe_fn {k : Nat} (t : Tm) : wNe k (.d t.d) (.d (.str "fn")) = some (.d (.bool true)) := by
  have h : eqOk k t.d (.str "fn") = true := by cases t <;> rfl
  simp only [wNe, h, eqD_fn, if_true]; rfl
/-! ### bits -/
theorem bits_lt {x : Int} {n : Nat} : Builtin.Int.intBits x ≤ n ↔ x.natAbs < 2 ^ n := by
  unfold Builtin.Int.intBits
  split
  · rename_i h
    have h0 : x = 0 := by simpa using h
    subst h0
    simp [Nat.pow_pos]
  · rename_i h
    have h0 : x.natAbs ≠ 0 := by
      intro e
      apply h
      simp
      omega
    rw [Nat.succ_le_iff, Nat.log2_lt h0]
theorem bits_add {x y : Int} {n : Nat} (h1 : Builtin.Int.intBits x ≤ n) (h2 : Builtin.Int.intBits y ≤ n) : Builtin.Int.intBits (x + y) ≤ n + 1 := by
  rw [bits_lt] at h1 h2 ⊢
  have h3 := Int.natAbs_add_le x y
  rw [Nat.pow_succ]
  omega
theorem bits_mono {x : Int} {m n : Nat} (h : Builtin.Int.intBits x ≤ m) (e : m ≤ n) : Builtin.Int.intBits x ≤ n := Nat.le_trans h e
theorem bits_small {x : Int} {n m : Nat} (h : x.natAbs < 2 ^ m) (e : m ≤ n) : Builtin.Int.intBits x ≤ n := bits_mono (bits_lt.mpr h) e
end Nm
namespace Nm
open PySem L2
theorem wIx_t0 (a b : PyData) : wIx (.d (.tuple [a, b])) (.d (.int 0)) = some (.d a) := rfl
theorem wIx_t1 (a b : PyData) : wIx (.d (.tuple [a, b])) (.d (.int 1)) = some (.d b) := rfl
theorem wEq_int (k : Nat) (i j : Int) : wEq k (.d (.int i)) (.d (.int j)) = some (.d (.bool (decide (i = j)))) := by
  simp only [wEq, eqOk, eqD, if_true]
  congr 3
theorem wNe_int (k : Nat) (i j : Int) : wNe k (.d (.int i)) (.d (.int j)) = some (.d (.bool (!decide (i = j)))) := by
  simp only [wNe, eqOk, eqD, if_true]
  congr 3
theorem wEq_str (k : Nat) (i j : Str) : wEq k (.d (.str i)) (.d (.str j)) = some (.d (.bool (decide (i = j)))) := by
  simp only [wEq, eqOk, eqD, if_true]
  congr 3
theorem wNe_str (k : Nat) (i j : Str) : wNe k (.d (.str i)) (.d (.str j)) = some (.d (.bool (!decide (i = j)))) := by
  simp only [wNe, eqOk, eqD, if_true]
  congr 3
theorem val_w (x : W) : (Res.w x).val = some x := rfl
theorem val_fl (xs : List PyData) : (Res.fl xs).val = some (.d (.list xs)) := rfl
theorem lookup_map {f : Int → PyData} (k : Str) : ∀ (ks : List Str) (xs : List Int), (ks.zip (xs.map f)).lookup k = ((ks.zip xs).lookup k).map f
  | [], _ => by simp
  | _ :: _, [] => by simp
  | a :: ks, x :: xs => by
    rw [List.map_cons, List.zip_cons_cons, List.zip_cons_cons, List.lookup_cons, List.lookup_cons]
    cases k == a with
    | true => rfl
    | false => exact lookup_map k ks xs
/-! ### rows -/
def Tm.row : Tm → Bool
  | .nm _ => false
  | .mk _ => true
  | .ap a b => a.row && b.row
  | .fn _ => false
/-- how many names and makers -/
def Tm.lv : Tm → Nat
  | .nm _ => 1
  | .mk _ => 1
  | .ap a b => a.lv + b.lv
  | .fn b => b.lv
theorem Tm.lv_pos : ∀ t : Tm, 1 ≤ t.lv
  | .nm _ => Nat.le_refl _
  | .mk _ => Nat.le_refl _
  | .ap a b => by have := a.lv_pos; simp only [Tm.lv]; omega
  | .fn b => by have := b.lv_pos; simpa only [Tm.lv] using this
/-- by a drawn term: sorts, how deep, how many -/
inductive Drawn (s : Int) : Nat → Nat → Tm → Prop
  | fn {d n t} : s < 2 → d < 3 → Drawn s (d + 1) n t → Drawn s d n (.fn t)
  | mk {d} (m : Mkr) : s ≠ 0 → Drawn s d 1 (.mk m)
  | nm {d : Nat} (n : Int) : s ≠ 2 → 0 ≤ n → n < (d : Int) + 2 → Drawn s d 1 (.nm n)
  | ap {d n m a b} : 1 ≤ n → 1 ≤ m → Drawn s d n a → Drawn s d m b → Drawn s d (n + m) (.ap a b)
theorem Drawn.lv {s d n t} (h : Drawn s d n t) : t.lv = n := by
  induction h with
  | fn _ _ _ ih => simpa only [Tm.lv] using ih
  | mk => rfl
  | nm => rfl
  | ap _ _ _ _ h1 h2 => simp only [Tm.lv, h1, h2]
theorem Drawn.dep {s d n t} (h : Drawn s d n t) : t.dep + 1 ≤ n + (3 - d) := by
  induction h with
  | fn _ _ _ ih => simp only [Tm.dep]; omega
  | mk => simp only [Tm.dep]; omega
  | nm => simp only [Tm.dep]; omega
  | ap _ _ _ _ h1 h2 => simp only [Tm.dep]; omega
theorem Drawn.rows {d n t} (h : Drawn 2 d n t) : t.row = true := by
  induction h with
  | fn h _ _ ih => exact absurd h (by decide)
  | mk => rfl
  | nm _ h => exact absurd rfl h
  | ap _ _ _ _ h1 h2 => simp only [Tm.row, h1, h2]; rfl
theorem row_dep : ∀ t : Tm, t.row = true → t.dep + 1 ≤ t.lv
  | .nm _, h => by cases h
  | .mk _, _ => Nat.le_refl _
  | .ap a b, h => by
    have h' : a.row = true ∧ b.row = true := by simpa only [Tm.row, Bool.and_eq_true] using h
    have h1 := row_dep a h'.1
    have h2 := row_dep b h'.2
    simp only [Tm.dep, Tm.lv]
    omega
  | .fn _, h => by cases h
theorem layAll_d : ∀ ts : List Tm, PyData.canLayAll0 (ts.map Tm.d) = true
  | [] => by simp only [List.map_nil, PyData.canLayAll0]
  | t :: ts => by simp only [List.map_cons, PyData.canLayAll0, lay_d t, layAll_d ts]; rfl
theorem any_d (m : Tm) : ∀ ts : List Tm, ((ts.map Tm.d).any fun y => PyData.eqv y m.d) = decide (m ∈ ts)
  | [] => by simp
  | t :: ts => by
    have h : (m ∈ t :: ts) ↔ (t = m ∨ m ∈ ts) := by rw [List.mem_cons, eq_comm]
    rw [List.map_cons, List.any_cons, any_d m ts, eqv_d]
    simp only [h, Bool.decide_or]
theorem wIn_tms {k : Nat} {m : Tm} (h : m.dep ≤ 190 + 16 * k) (ts : List Tm) : wInS k false (.d m.d) (.d (.tuple (ts.map Tm.d))) = some (.d (.bool (decide (m ∈ ts)))) := by
  have h2 : min (PyData.depthAll (ts.map Tm.d)) m.d.depth ≤ 190 + 16 * k := by rw [dep_d]; omega
  simp only [wInS, lay_d, layAll_d, h2, decide_true, Bool.and_true, if_true, any_d, Bool.false_eq_true, if_false]
theorem eqvAll_d : ∀ ts us : List Tm, PyData.eqvAll (ts.map Tm.d) (us.map Tm.d) = decide (ts = us)
  | [], [] => by simp [PyData.eqvAll]
  | [], _ :: _ => by simp [PyData.eqvAll]
  | _ :: _, [] => by simp [PyData.eqvAll]
  | t :: ts, u :: us => by
    rw [List.map_cons, List.map_cons, PyData.eqvAll, eqv_d, eqvAll_d ts us]
    by_cases h1 : t = u <;> by_cases h2 : ts = us <;> simp [h1, h2]
/-- the deepest -/
def deps : List Tm → Nat
  | [] => 0
  | t :: ts => max t.dep (deps ts)
theorem depthAll_d : ∀ ts : List Tm, PyData.depthAll (ts.map Tm.d) ≤ deps ts + 1
  | [] => by simp only [List.map_nil, PyData.depthAll]; omega
  | t :: ts => by
    have := depthAll_d ts
    simp only [List.map_cons, PyData.depthAll, dep_d, deps]; omega
theorem eqOk_tms {k : Nat} {ts us : List Tm} (h : min (deps ts) (deps us) + 2 ≤ 199 + 16 * k) : eqOk k (.tuple (ts.map Tm.d)) (.tuple (us.map Tm.d)) = true := by
  have h1 := depthAll_d ts
  have h2 := depthAll_d us
  simp only [eqOk, layAll_d, Bool.and_true, Bool.true_and, PyData.depth]
  exact decide_eq_true (by omega)
theorem eqOk_tmsL {k : Nat} {ts us : List Tm} (h : min (deps ts) (deps us) + 2 ≤ 199 + 16 * k) : eqOk k (.list (ts.map Tm.d)) (.list (us.map Tm.d)) = true := by
  have h1 := depthAll_d ts
  have h2 := depthAll_d us
  simp only [eqOk, layAll_d, Bool.and_true, Bool.true_and, PyData.depth]
  exact decide_eq_true (by omega)
theorem wEq_tms {k : Nat} {ts us : List Tm} (h : min (deps ts) (deps us) + 2 ≤ 199 + 16 * k) : wEq k (.d (.tuple (ts.map Tm.d))) (.d (.tuple (us.map Tm.d))) = some (.d (.bool (decide (ts = us)))) := by
  simp only [wEq, eqOk_tms h, if_true, eqD, eqvAll_d]
theorem wNe_tms {k : Nat} {ts us : List Tm} (h : min (deps ts) (deps us) + 2 ≤ 199 + 16 * k) : wNe k (.d (.tuple (ts.map Tm.d))) (.d (.tuple (us.map Tm.d))) = some (.d (.bool (!decide (ts = us)))) := by
  simp only [wNe, eqOk_tms h, if_true, eqD, eqvAll_d]
theorem wEq_tmsL {k : Nat} {ts us : List Tm} (h : min (deps ts) (deps us) + 2 ≤ 199 + 16 * k) : wEq k (.d (.list (ts.map Tm.d))) (.d (.list (us.map Tm.d))) = some (.d (.bool (decide (ts = us)))) := by
  simp only [wEq, eqOk_tmsL h, if_true, eqD, eqvAll_d]
theorem wNe_tmsL {k : Nat} {ts us : List Tm} (h : min (deps ts) (deps us) + 2 ≤ 199 + 16 * k) : wNe k (.d (.list (ts.map Tm.d))) (.d (.list (us.map Tm.d))) = some (.d (.bool (!decide (ts = us)))) := by
  simp only [wNe, eqOk_tmsL h, if_true, eqD, eqvAll_d]
/-! ### ranges, item by item -/
def stp (lo c : Int) : Nat → List PyData
  | 0 => []
  | n + 1 => .int lo :: stp (lo + c) c n
theorem rngD_stp : ∀ (n : Nat) (lo c : Int), rngD lo c n = stp lo c n
  | 0, _, _ => rfl
  | n + 1, lo, c => by
    rw [stp, ← rngD_stp n (lo + c) c]
    unfold rngD
    rw [List.range_succ_eq_map, List.map_cons, List.map_map]
    congr 1
    · simp
    · apply List.map_congr_left
      intro i _
      simp only [Function.comp]
      congr 1
      rw [show ((i.succ : Nat) : Int) = (i : Int) + 1 from rfl, Int.add_mul]
      omega
theorem stp_mem : ∀ (n : Nat) (lo c : Int) (d : PyData), d ∈ stp lo c n → ∃ i : Nat, i < n ∧ d = .int (lo + i * c)
  | 0, _, _, _, h => by cases h
  | n + 1, lo, c, d, h => by
    rcases List.mem_cons.mp h with rfl | h
    · exact ⟨0, by omega, by simp⟩
    · obtain ⟨i, h1, rfl⟩ := stp_mem n (lo + c) c d h
      refine ⟨i + 1, by omega, ?_⟩
      rw [show ((i + 1 : Nat) : Int) = (i : Int) + 1 from rfl, Int.add_mul]
      congr 1
      omega
theorem stp_len : ∀ (n : Nat) (lo c : Int), (stp lo c n).length = n
  | 0, _, _ => rfl
  | n + 1, lo, c => by rw [stp, List.length_cons, stp_len n]
theorem small_rng (hi c : Int) (h1 : 1 ≤ hi) (h2 : hi ≤ 12) (h3 : 2 ≤ c) (h4 : c ≤ 4) : c ≠ 0 ∧ c.natAbs < 1073741824 ∧ Builtin.Range.small 0 hi c = true ∧ 0 ≤ Builtin.Range.rangeSize 0 hi c ∧ (Builtin.Range.rangeSize 0 hi c).toNat ≤ 6 := by
  have h : c = 2 ∨ c = 3 ∨ c = 4 := by omega
  have g : hi = 1 ∨ hi = 2 ∨ hi = 3 ∨ hi = 4 ∨ hi = 5 ∨ hi = 6 ∨ hi = 7 ∨ hi = 8 ∨ hi = 9 ∨ hi = 10 ∨ hi = 11 ∨ hi = 12 := by omega
  rcases h with rfl | rfl | rfl <;> rcases g with rfl | rfl | rfl | rfl | rfl | rfl | rfl | rfl | rfl | rfl | rfl | rfl <;> decide
/-- range(0, max(1, min(most, len(script))), c) -/
theorem itR3_scr {r : Rho} {f : Rho → Option W} {n : Nat} (hi : Int) (c : Int) (hf : f r = some (.d (.int hi))) (h1 : 1 ≤ hi) (h2 : hi ≤ 12) (h3 : 2 ≤ c) (h4 : c ≤ 4) : ∃ n : Nat, n ≤ 6 ∧ itR3 (cI 0) f (cI c) r = some (stp 0 c n) := by
  obtain ⟨g1, g2, g3, g4, g5⟩ := small_rng hi c h1 h2 h3 h4
  refine ⟨_, g5, ?_⟩
  simp only [itR3, cD, hf, rngD_stp]
  rw [if_pos ⟨g1, g2, g3, g4⟩]
/-! ### a walk that goes through -/
theorem forW_inv {g : PyData → Rho → Option Rho} {h : CS} (P : Nat → Rho → Prop) : ∀ (ds : List PyData) (n : Nat) (r : Rho), P n r →
    (∀ i d r, ds[i]? = some d → P (n + i) r → ∃ r1 r2, g d r = some r1 ∧ (h r1 = some (.nx r2) ∨ h r1 = some (.ct r2)) ∧ P (n + i + 1) r2) → ∃ r2, forW g h ds r = some (.nx r2) ∧ P (n + ds.length) r2
  | [], n, r, hp, _ => ⟨r, rfl, hp⟩
  | d :: ds, n, r, hp, hs => by
    obtain ⟨r1, r2, h1, h2, h3⟩ := hs 0 d r rfl hp
    obtain ⟨r3, h4, h5⟩ := forW_inv P ds (n + 1) r2 h3 fun i e r' he hp' => by
      have := hs (i + 1) e r' (by simpa using he) (by rw [show n + (i + 1) = n + 1 + i by omega]; exact hp')
      rw [show n + (i + 1) + 1 = n + 1 + i + 1 by omega] at this
      exact this
    refine ⟨r3, ?_, by rw [List.length_cons, show n + (ds.length + 1) = n + 1 + ds.length by omega]; exact h5⟩
    rw [forW, h1]
    rcases h2 with h2 | h2 <;> · simp only [h2]; exact h4
/-- .. that keeps what is known -/
theorem forW_keep {g : PyData → Rho → Option Rho} {h : CS} (P : Rho → Prop) (ds : List PyData) (r : Rho) (hp : P r)
    (hs : ∀ d r, d ∈ ds → P r → ∃ r1 r2, g d r = some r1 ∧ (h r1 = some (.nx r2) ∨ h r1 = some (.ct r2)) ∧ P r2) : ∃ r2, forW g h ds r = some (.nx r2) ∧ P r2 := by
  obtain ⟨r2, h1, h2⟩ := forW_inv (g := g) (h := h) (fun _ => P) ds 0 r hp fun i d r e p => hs d r (List.mem_of_getElem? e) p
  exact ⟨r2, h1, h2⟩
/-! ### one statement behind another -/
theorem seq_if {q : Rho → Option Bool} {a h : CS} {r : Rho} (e : q r = some false) : sSeq (sIf q a sNil) h r = h r := by
  simp only [sSeq, sIf, e, sNil]
theorem do_if {q : Rho → Option Bool} {a b : CS} {r : Rho} (e : q r = some true) : sIf q a b r = a r := by
  simp only [sIf, e]
theorem last_if {q : Rho → Option Bool} {a : CS} {r : Rho} (e : q r = some false) : sIf q a sNil r = some (.nx r) := by
  simp only [sIf, e, sNil]
theorem seq_asg {i : Nat} {f : Rho → Option W} {h : CS} {r : Rho} {w : W} (e : f r = some w) (c : (w.im || noOwn r) = true) : sSeq (sAsg i f) h r = h (r.set i (some (.w w))) := by
  simp only [sSeq, sAsg, e, c, if_true]
theorem seq_nx {g h : CS} {r r' : Rho} (e : g r = some (.nx r')) : sSeq g h r = h r' := by
  simp only [sSeq, e]
theorem sFor_eq {g : PyData → Rho → Option Rho} {f : Rho → Option (List PyData)} {h : CS} {ds : List PyData} {r : Rho} (hf : f r = some ds) : sFor g f h r = forW g h ds r := by
  unfold sFor
  rw [hf]
theorem sFor_keep {g : PyData → Rho → Option Rho} {f : Rho → Option (List PyData)} {h : CS} {ds : List PyData} {r : Rho} (P : Rho → Prop) (hf : f r = some ds) (hp : P r)
    (hs : ∀ d r, d ∈ ds → P r → ∃ r1 r2, g d r = some r1 ∧ (h r1 = some (.nx r2) ∨ h r1 = some (.ct r2)) ∧ P r2) : ∃ r2, sFor g f h r = some (.nx r2) ∧ P r2 := by
  unfold sFor
  rw [hf]
  exact forW_keep P ds r hp hs
abbrev vD (x : PyData) : Option Sl := some (.w (.d x))
abbrev vI (i : Int) : Option Sl := some (.w (.d (.int i)))
abbrev vB (b : Bool) : Option Sl := some (.w (.d (.bool b)))
abbrev vS (l : Str) : Option Sl := some (.w (.d (.str l)))
abbrev vT (t : Tm) : Option Sl := some (.w (.d t.d))
/-- a walk that goes through, as a function -/
def forR (g : PyData → Rho → Option Rho) (h : CS) : List PyData → Rho → Option Rho
  | [], r => some r
  | d :: ds, r => match g d r with
    | some r1 => match h r1 with
      | some (.nx r') => forR g h ds r'
      | some (.ct r') => forR g h ds r'
      | _ => none
    | none => none
theorem forR_W {g : PyData → Rho → Option Rho} {h : CS} : ∀ (ds : List PyData) (r r' : Rho), forR g h ds r = some r' → forW g h ds r = some (.nx r')
  | [], r, r', e => by cases e; rfl
  | d :: ds, r, r', e => by
    rw [forR] at e
    rw [forW]
    cases e1 : g d r with
    | none => rw [e1] at e; cases e
    | some r1 =>
      rw [e1] at e
      simp only [] at e ⊢
      cases e2 : h r1 with
      | none => rw [e2] at e; cases e
      | some o =>
        rw [e2] at e
        cases o with
        | nx r2 => exact forR_W ds r2 r' e
        | ct r2 => exact forR_W ds r2 r' e
        | bk r2 => cases e
        | rt z => cases e
theorem forR_app {g : PyData → Rho → Option Rho} {h : CS} : ∀ (ds es : List PyData) (r r' : Rho), forR g h ds r = some r' → forR g h (ds ++ es) r = forR g h es r'
  | [], es, r, r', e => by cases e; rfl
  | d :: ds, es, r, r', e => by
    rw [forR] at e
    rw [List.cons_append, forR]
    cases e1 : g d r with
    | none => rw [e1] at e; cases e
    | some r1 =>
      rw [e1] at e
      simp only [] at e ⊢
      cases e2 : h r1 with
      | none => rw [e2] at e; cases e
      | some o =>
        rw [e2] at e
        cases o with
        | nx r2 => exact forR_app ds es r2 r' e
        | ct r2 => exact forR_app ds es r2 r' e
        | bk r2 => cases e
        | rt z => cases e
end Nm
namespace Nm
open PySem L2
/-! ### texts -/
abbrev sOf (l : List Nat) : Str := ⟨l.toArray⟩
theorem str_of_list (z : Str) : sOf z.cps.toList = z := by cases z; rfl
theorem sOf_len (l : List Nat) : (sOf l).length = l.length := by simp [Str.length]
theorem sOf_cps (l : List Nat) : (sOf l).cps.toList = l := rfl
theorem sOf_app (l m : List Nat) : (sOf l ++ sOf m : Str) = sOf (l ++ m) := by
  show (⟨l.toArray ++ m.toArray⟩ : Str) = _
  simp
theorem at_s : ("@" : Str) = sOf [64] := by decide +kernel
theorem mk_sOf (m : Mkr) : m.s = sOf [m.c] := by cases m <;> decide +kernel
theorem sOf_inj {l m : List Nat} : sOf l = sOf m ↔ l = m := by
  constructor
  · intro h
    have := congrArg (fun z : Str => z.cps.toList) h
    exact this
  · intro h; rw [h]
theorem revS_cps (z : Str) : (revS z).cps.toList = z.cps.toList.reverse := by
  show ((Builtin.Str.strSliceIndices none none (-1) z.length).filterMap (z.cps[·]?)) = _
  rw [PyProof.Rows.picked_rev, PyProof.Rows.filterMap_get, List.map_map]
  · apply List.ext_getElem?
    intro i
    by_cases h : i < z.cps.size
    · have h1 : (z.cps.toList.reverse)[i]? = some (z.cps.getD (z.cps.size - 1 - i) 0) := by
        rw [List.getElem?_reverse (by simpa using h), Array.getElem?_toList, Array.length_toList]
        have h2 : z.cps.size - 1 - i < z.cps.size := by omega
        rw [Array.getElem?_eq_getElem h2]
        simp [Array.getD, h2]
      rw [h1, List.getElem?_map, List.getElem?_range (by simpa [Str.length] using h)]
      rfl
    · rw [List.getElem?_eq_none (by simp [Str.length]; omega), List.getElem?_eq_none (by simp; omega)]
  · intro i hi
    obtain ⟨k, hk, rfl⟩ := List.mem_map.mp hi
    have hk' : k < z.length := List.mem_range.mp hk
    show z.length - 1 - k < z.length
    omega
theorem revS_sOf (l : List Nat) : revS (sOf l) = sOf l.reverse := by
  rw [← str_of_list (revS (sOf l)), revS_cps]
theorem cutS_sOf (l : List Nat) (a b : Option Int) : cutS (sOf l) a b = sOf ((l.drop (HT.sIx l.length 0 a)).take (HT.sIx l.length l.length b - HT.sIx l.length 0 a)) := by
  unfold cutS
  rw [sOf_len]
/-- is a sign a maker -/
def isMk (c : Nat) : Bool := decide (c ∈ [66, 67, 73, 75, 83])
theorem isMk_ex {c : Nat} (h : isMk c = true) : ∃ m : Mkr, c = m.c := by
  have h : c ∈ [66, 67, 73, 75, 83] := of_decide_eq_true h
  simp only [List.mem_cons, List.not_mem_nil, or_false] at h
  rcases h with h | h | h | h | h
  · exact ⟨.B, h⟩
  · exact ⟨.C, h⟩
  · exact ⟨.I, h⟩
  · exact ⟨.K, h⟩
  · exact ⟨.S, h⟩
theorem isMk_c (m : Mkr) : isMk m.c = true := by cases m <;> decide
theorem c_ne_at (m : Mkr) : m.c ≠ 64 := by cases m <;> decide
theorem mkc_inj {m n : Mkr} (h : m.c = n.c) : m = n := by cases m <;> cases n <;> first | rfl | (exact absurd h (by decide))
theorem in_mk (k : Nat) (c : Nat) : wInS k false (.d (.str (sOf [c]))) (.d (.str "BCIKS")) = some (.d (.bool (isMk c))) := by
  show some (W.d (.bool (!(Builtin.Str.occurrences "BCIKS" ⟨#[c]⟩ 0 ("BCIKS" : Str).length 1).isEmpty))) = _
  rw [PySem.StrLaws.found_one]
  have e : ("BCIKS" : Str).cps.toList = [66, 67, 73, 75, 83] := by decide +kernel
  rw [e]
  rfl
theorem notin_at (k : Nat) (c : Nat) : wInS k true (.d (.str (sOf [c]))) (.d (.str "@BCIKS")) = some (.d (.bool (!(decide (c = 64) || isMk c)))) := by
  show some (W.d (.bool (!(!(Builtin.Str.occurrences "@BCIKS" ⟨#[c]⟩ 0 ("@BCIKS" : Str).length 1).isEmpty)))) = _
  rw [PySem.StrLaws.found_one]
  have e : ("@BCIKS" : Str).cps.toList = [64, 66, 67, 73, 75, 83] := by decide +kernel
  rw [e]
  congr 4
  unfold isMk
  rw [Bool.eq_iff_iff]
  simp
theorem one_at (c : Nat) : (sOf [c] = ("@" : Str)) = (c = 64) := by
  rw [at_s]
  apply propext
  rw [sOf_inj]
  simp
/-- the text of a row -/
def Tm.tx : Tm → List Nat
  | .nm _ => []
  | .mk m => [m.c]
  | .ap a b => 64 :: (a.tx ++ b.tx)
  | .fn _ => []
/-- first wrong place, or what is due at the end -/
def wz : Int → Int → List Nat → Int ⊕ Int
  | due, _, [] => .inr due
  | due, p, c :: l => if due = 0 ∨ ¬ (c = 64 ∨ isMk c = true) then .inl p else wz (if c = 64 then due + 1 else due - 1) (p + 1) l
def wrong (l : List Nat) : Int := match wz 1 0 l with
  | .inl p => p
  | .inr due => if 0 < due then l.length else -1
theorem wz_inl : ∀ (l : List Nat) (due p q : Int), wz due p l = .inl q → p ≤ q ∧ q < p + l.length
  | [], _, _, _, h => by cases h
  | c :: l, due, p, q, h => by
    unfold wz at h
    split at h
    · cases h; simp only [List.length_cons]; omega
    · have := wz_inl l _ _ _ h
      simp only [List.length_cons]; omega
def txs : List Tm → List Nat
  | [] => []
  | t :: ts => t.tx ++ txs ts
theorem wz_rows : ∀ (l : List Nat) (due p q : Int), 0 ≤ due → wz due p l = .inr q → q ≤ 0 → ∃ ts : List Tm, (ts.length : Int) = due ∧ l = txs ts ∧ ∀ t ∈ ts, t.row = true
  | [], due, p, q, h0, h, hq => by
    cases h
    exact ⟨[], by simp only [List.length_nil]; omega, rfl, fun t ht => by cases ht⟩
  | c :: l, due, p, q, h0, h, hq => by
    unfold wz at h
    split at h
    · cases h
    · rename_i hc
      have hc1 : ¬ due = 0 := fun e => hc (.inl e)
      have hc2 : c = 64 ∨ isMk c = true := Decidable.byContradiction fun e => hc (.inr e)
      by_cases e : c = 64
      · rw [if_pos e] at h
        obtain ⟨ts, h1, h2, h3⟩ := wz_rows l _ _ _ (by omega) h hq
        match ts, h1, h2, h3 with
        | [], h1, _, _ => simp only [List.length_nil] at h1; omega
        | [a], h1, _, _ => simp only [List.length_cons, List.length_nil] at h1; omega
        | a :: b :: ts, h1, h2, h3 =>
          refine ⟨.ap a b :: ts, by simp only [List.length_cons] at h1 ⊢; omega, ?_, fun t ht => ?_⟩
          · rw [h2, e]; simp only [txs, Tm.tx, List.cons_append, List.append_assoc]
          · rcases List.mem_cons.mp ht with rfl | ht
            · simp only [Tm.row, h3 a List.mem_cons_self, h3 b (List.mem_cons_of_mem _ List.mem_cons_self)]; rfl
            · exact h3 t (List.mem_cons_of_mem _ (List.mem_cons_of_mem _ ht))
      · rw [if_neg e] at h
        obtain ⟨m, rfl⟩ := isMk_ex (hc2.resolve_left e)
        obtain ⟨ts, h1, h2, h3⟩ := wz_rows l _ _ _ (by omega) h hq
        refine ⟨.mk m :: ts, by simp only [List.length_cons]; omega, ?_, fun t ht => ?_⟩
        · rw [h2]; rfl
        · rcases List.mem_cons.mp ht with rfl | ht
          · rfl
          · exact h3 t ht
theorem wz_txs : ∀ (t : Tm) (l : List Nat) (due p : Int), t.row = true → 0 < due → wz due p (t.tx ++ l) = wz (due - 1) (p + t.tx.length) l
  | .nm _, _, _, _, h, _ => by cases h
  | .fn _, _, _, _, h, _ => by cases h
  | .mk m, l, due, p, _, hd => by
    simp only [Tm.tx, List.cons_append, List.nil_append, List.length_cons, List.length_nil]
    rw [wz, if_neg (fun h => h.elim (fun h => by omega) fun h => h (.inr (isMk_c m))), if_neg (c_ne_at m)]
    rfl
  | .ap a b, l, due, p, h, hd => by
    have h' : a.row = true ∧ b.row = true := by simpa only [Tm.row, Bool.and_eq_true] using h
    simp only [Tm.tx, List.cons_append, List.length_cons, List.append_assoc, List.length_append]
    rw [wz, if_neg (by omega), if_pos rfl, wz_txs a _ _ _ h'.1 (by omega), wz_txs b _ _ _ h'.2 (by omega)]
    congr 1
    · omega
    · omega
theorem wrong_tx {t : Tm} (h : t.row = true) : wrong t.tx = -1 := by
  have := wz_txs t [] 1 0 h (by decide)
  rw [List.append_nil] at this
  unfold wrong
  rw [this]
  rfl
theorem wrong_neg {l : List Nat} (h : wrong l < 0) : ∃ t : Tm, t.row = true ∧ l = t.tx := by
  unfold wrong at h
  split at h
  · rename_i p e
    have := wz_inl l _ _ _ e
    omega
  · rename_i due e
    split at h
    · omega
    · rename_i hd
      obtain ⟨ts, h1, h2, h3⟩ := wz_rows l 1 0 due (by decide) e (by omega)
      match ts, h1, h2, h3 with
      | [], h1, _, _ => simp only [List.length_nil] at h1; omega
      | [a], h1, h2, h3 => exact ⟨a, h3 a List.mem_cons_self, by rw [h2]; simp only [txs, List.append_nil]⟩
      | a :: b :: ts, h1, _, _ => simp only [List.length_cons] at h1; omega
/-- the stack that is read from the end on -/
def rd1 (st : List PyData) (c : Nat) : List PyData := if c = 64 then match st.getLast?, st.dropLast.getLast? with
    | some a, some b => st.dropLast.dropLast ++ [.tuple [a, b]]
    | _, _ => []
  else st ++ [.str (sOf [c])]
theorem rd_tx : ∀ (t : Tm) (st : List PyData), t.row = true → t.tx.reverse.foldl rd1 st = st ++ [t.d]
  | .nm _, _, h => by cases h
  | .fn _, _, h => by cases h
  | .mk m, st, _ => by
    simp only [Tm.tx, List.reverse_cons, List.reverse_nil, List.nil_append, List.foldl_cons, List.foldl_nil, rd1, if_neg (c_ne_at m), Tm.d, mk_sOf]
  | .ap a b, st, h => by
    have h' : a.row = true ∧ b.row = true := by simpa only [Tm.row, Bool.and_eq_true] using h
    simp only [Tm.tx, List.reverse_cons, List.reverse_append, List.foldl_append, List.foldl_cons, List.foldl_nil]
    rw [rd_tx b st h'.2, rd_tx a _ h'.1]
    simp [rd1, Tm.d]
theorem tx_inj {t u : Tm} (ht : t.row = true) (hu : u.row = true) (h : t.tx = u.tx) : t = u := by
  have h1 := rd_tx t [] ht
  rw [h, rd_tx u [] hu] at h1
  simp only [List.nil_append, List.cons.injEq, and_true] at h1
  have h2 := eqv_d u t
  have h3 := eqv_d t t
  rw [h1] at h2
  rw [h2] at h3
  have := of_decide_eq_true (h3.trans (decide_eq_true rfl))
  exact this.symm
/-- how long -/
theorem tx_len : ∀ t : Tm, t.row = true → t.tx.length + 1 = 2 * t.lv
  | .nm _, h => by cases h
  | .fn _, h => by cases h
  | .mk m, _ => rfl
  | .ap a b, h => by
    have h' : a.row = true ∧ b.row = true := by simpa only [Tm.row, Bool.and_eq_true] using h
    have h1 := tx_len a h'.1
    have h2 := tx_len b h'.2
    simp only [Tm.tx, Tm.lv, List.length_cons, List.length_append]
    omega
end Nm
namespace Nm
open PySem L2
/-! ### what a term comes to -/
def Tm.sz : Tm → Nat
  | .nm _ => 1
  | .mk _ => 1
  | .ap a b => a.sz + b.sz
  | .fn b => b.sz + 1
def lift (by_ : Int) : Tm → Int → Tm
  | .nm n, d => if d ≤ n then .nm (n + by_) else .nm n
  | .mk m, _ => .mk m
  | .ap a b, d => .ap (lift by_ a d) (lift by_ b d)
  | .fn b, d => .fn (lift by_ b (d + 1))
def put (x : Tm) : Tm → Int → Tm
  | .nm n, d => if n < d then .nm n else if n = d then lift d x 0 else .nm (n - 1)
  | .mk m, _ => .mk m
  | .ap a b, d => .ap (put x a d) (put x b d)
  | .fn b, d => .fn (put x b (d + 1))
def mstep (x : Tm) : Tm → Option Tm
  | .mk .I => some x
  | .ap (.mk .K) a => some a
  | .ap (.ap (.mk .S) a) b => some (.ap (.ap a x) (.ap b x))
  | .ap (.ap (.mk .B) a) b => some (.ap a (.ap b x))
  | .ap (.ap (.mk .C) a) b => some (.ap (.ap a x) b)
  | _ => none
def Tm.isFn : Tm → Bool
  | .fn _ => true
  | _ => false
/-- what the whole comes to -/
def head (l r : Tm) : Option Tm := match l with
  | .fn b => some (put r b 0)
  | l => mstep r l
def stp1 : Tm → Option Tm
  | .nm _ => none
  | .mk _ => none
  | .fn b => match stp1 b with
    | some c => some (.fn c)
    | none => none
  | .ap l r => match head l r with
    | some u => some u
    | none => match stp1 l with
      | some l' => some (.ap l' r)
      | none => match stp1 r with
        | some r' => some (.ap l r')
        | none => none
def can (t : Tm) : Bool := (stp1 t).isSome
/-- the end: fuel most -/
def endOf : Nat → Tm → Tm × Nat
  | 0, t => (t, 0)
  | n + 1, t => if t.sz ≤ 200 then match stp1 t with
      | some u => ((endOf n u).1, (endOf n u).2 + 1)
      | none => (t, 0)
    else (t, 0)
def optD : Option Tm → PyData
  | none => .none
  | some t => t.d
theorem Tm.sz_pos : ∀ t : Tm, 1 ≤ t.sz
  | .nm _ => Nat.le_refl _
  | .mk _ => Nat.le_refl _
  | .ap a b => by have := a.sz_pos; simp only [Tm.sz]; omega
  | .fn b => by simp only [Tm.sz]; omega
theorem dep_sz : ∀ t : Tm, t.dep + 1 ≤ t.sz
  | .nm _ => Nat.le_refl _
  | .mk _ => Nat.le_refl _
  | .ap a b => by have h1 := dep_sz a; have h2 := dep_sz b; simp only [Tm.sz, Tm.dep]; omega
  | .fn b => by have h1 := dep_sz b; simp only [Tm.sz, Tm.dep]; omega
theorem lift_dep (by_ : Int) : ∀ (t : Tm) (d : Int), (lift by_ t d).dep = t.dep
  | .nm n, d => by unfold lift; split <;> rfl
  | .mk m, d => rfl
  | .ap a b, d => by simp only [lift, Tm.dep, lift_dep by_ a d, lift_dep by_ b d]
  | .fn b, d => by simp only [lift, Tm.dep, lift_dep by_ b (d + 1)]
theorem lift_sz (by_ : Int) : ∀ (t : Tm) (d : Int), (lift by_ t d).sz = t.sz
  | .nm n, d => by unfold lift; split <;> rfl
  | .mk m, d => rfl
  | .ap a b, d => by simp only [lift, Tm.sz, lift_sz by_ a d, lift_sz by_ b d]
  | .fn b, d => by simp only [lift, Tm.sz, lift_sz by_ b (d + 1)]
theorem put_dep (x : Tm) : ∀ (t : Tm) (d : Int), (put x t d).dep ≤ t.dep + x.dep
  | .nm n, d => by
    unfold put
    split
    · simp only [Tm.dep]; omega
    · split
      · rw [lift_dep]; simp only [Tm.dep]; omega
      · simp only [Tm.dep]; omega
  | .mk m, d => by simp only [put, Tm.dep]; omega
  | .ap a b, d => by have h1 := put_dep x a d; have h2 := put_dep x b d; simp only [put, Tm.dep]; omega
  | .fn b, d => by have h1 := put_dep x b (d + 1); simp only [put, Tm.dep]; omega
theorem put_sz (x : Tm) : ∀ (t : Tm) (d : Int), (put x t d).sz ≤ t.sz * x.sz
  | .nm n, d => by
    have := x.sz_pos
    unfold put
    split
    · simp only [Tm.sz]; omega
    · split
      · rw [lift_sz]; simp only [Tm.sz]; omega
      · simp only [Tm.sz]; omega
  | .mk m, d => by have := x.sz_pos; simp only [put, Tm.sz]; omega
  | .ap a b, d => by have h1 := put_sz x a d; have h2 := put_sz x b d; simp only [put, Tm.sz, Nat.add_mul]; omega
  | .fn b, d => by have h1 := put_sz x b (d + 1); have := x.sz_pos; simp only [put, Tm.sz, Nat.add_mul]; omega
theorem mstep_dep {x l u : Tm} (h : mstep x l = some u) : u.dep + 1 ≤ l.sz + x.sz := by
  have d1 := dep_sz x
  have p1 := x.sz_pos
  unfold mstep at h
  split at h <;> cases h
  · simp only [Tm.sz]; omega
  · rename_i a; have := dep_sz u; simp only [Tm.sz]; omega
  · rename_i a b; have h1 := dep_sz a; have h2 := dep_sz b; simp only [Tm.sz, Tm.dep]; omega
  · rename_i a b; have h1 := dep_sz a; have h2 := dep_sz b; simp only [Tm.sz, Tm.dep]; omega
  · rename_i a b; have h1 := dep_sz a; have h2 := dep_sz b; simp only [Tm.sz, Tm.dep]; omega
theorem mstep_sz {x l u : Tm} (h : mstep x l = some u) : u.sz ≤ l.sz + 2 * x.sz := by
  unfold mstep at h
  split at h <;> cases h <;> simp only [Tm.sz] <;> omega
theorem head_dep {l r u : Tm} (h : head l r = some u) : u.dep + 1 ≤ l.sz + r.sz := by
  unfold head at h
  split at h
  · rename_i b
    cases h
    have h1 := put_dep r b 0
    have h2 := dep_sz b
    have h3 := dep_sz r
    simp only [Tm.sz]; omega
  · exact mstep_dep h
theorem sq_le {a b n : Nat} (h : a + b ≤ n) : 4 * (a * b) ≤ n * n := by
  have key : ∀ a c : Nat, 4 * (a * (a + c)) ≤ (a + (a + c)) * (a + (a + c)) := fun a c => by
    simp only [Nat.mul_add, Nat.add_mul]
    have := Nat.mul_comm a c
    omega
  have h1 : 4 * (a * b) ≤ (a + b) * (a + b) := by
    rcases Nat.le_total a b with q | q
    · obtain ⟨c, rfl⟩ : ∃ c, b = a + c := ⟨b - a, by omega⟩
      exact key a c
    · obtain ⟨c, rfl⟩ : ∃ c, a = b + c := ⟨a - b, by omega⟩
      have := key b c
      rw [Nat.mul_comm (b + c) b, Nat.add_comm (b + c) b]
      exact this
  exact Nat.le_trans h1 (Nat.mul_le_mul h h)
theorem head_sz {l r u : Tm} {n : Nat} (hn : l.sz + r.sz ≤ n) (h : head l r = some u) : 4 * u.sz ≤ n * n + 8 * n := by
  unfold head at h
  split at h
  · rename_i b
    cases h
    have h1 := put_sz r b 0
    have h2 : 4 * (b.sz * r.sz) ≤ n * n := sq_le (by simp only [Tm.sz] at hn; omega)
    omega
  · have := mstep_sz h
    have hnn : 0 ≤ n * n := Nat.zero_le _
    omega
theorem stp1_dep : ∀ (t u : Tm), stp1 t = some u → u.dep + 1 ≤ t.sz
  | .nm _, _, h => by cases h
  | .mk _, _, h => by cases h
  | .fn b, u, h => by
    unfold stp1 at h
    split at h
    · rename_i c e
      cases h
      have := stp1_dep b c e
      simp only [Tm.sz, Tm.dep]; omega
    · cases h
  | .ap l r, u, h => by
    unfold stp1 at h
    split at h
    · rename_i v e
      cases h
      exact head_dep e
    · split at h
      · rename_i l' e
        cases h
        have h1 := stp1_dep l l' e
        have h2 := dep_sz r
        simp only [Tm.sz, Tm.dep]; omega
      · split at h
        · rename_i r' e
          cases h
          have h1 := stp1_dep r r' e
          have h2 := dep_sz l
          simp only [Tm.sz, Tm.dep]; omega
        · cases h
theorem stp1_sz {n : Nat} : ∀ (t u : Tm), t.sz ≤ n → stp1 t = some u → 4 * u.sz ≤ n * n + 8 * n + 4 * t.sz
  | .nm _, _, _, h => by cases h
  | .mk _, _, _, h => by cases h
  | .fn b, u, hn, h => by
    unfold stp1 at h
    split at h
    · rename_i c e
      cases h
      simp only [Tm.sz] at hn
      have := stp1_sz (n := n) b c (by omega) e
      simp only [Tm.sz]; omega
    · cases h
  | .ap l r, u, hn, h => by
    unfold stp1 at h
    split at h
    · rename_i v e
      cases h
      have := head_sz (n := n) hn e
      omega
    · simp only [Tm.sz] at hn
      split at h
      · rename_i l' e
        cases h
        have h1 := stp1_sz (n := n) l l' (by omega) e
        simp only [Tm.sz]; omega
      · split at h
        · rename_i r' e
          cases h
          have h1 := stp1_sz (n := n) r r' (by omega) e
          simp only [Tm.sz]; omega
        · cases h
/-- what is asked of terms that are gone through -/
def Fit (t : Tm) : Prop := t.dep ≤ 199 ∧ t.sz ≤ 20000
theorem fit_of {t : Tm} (h : t.sz ≤ 200) : Fit t := ⟨by have := dep_sz t; omega, by omega⟩
theorem fit_step {t u : Tm} (h : t.sz ≤ 200) (e : stp1 t = some u) : Fit u := ⟨by have := stp1_dep t u e; omega, by have := stp1_sz (n := 200) t u h e; omega⟩
theorem endOf_fit : ∀ (n : Nat) (t : Tm), Fit t → Fit (endOf n t).1
  | 0, t, h => h
  | n + 1, t, h => by
    unfold endOf
    split
    · rename_i hs
      split
      · rename_i u e
        exact endOf_fit n u (fit_step hs e)
      · exact h
    · exact h
theorem endOf_le : ∀ (n : Nat) (t : Tm), (endOf n t).2 ≤ n
  | 0, t => Nat.le_refl _
  | n + 1, t => by
    unfold endOf
    split
    · split
      · rename_i u e
        have := endOf_le n u
        show (endOf n u).2 + 1 ≤ n + 1
        omega
      · exact Nat.zero_le _
    · exact Nat.zero_le _
/-! ### a term as a line -/
def line : Tm → Tm × List Tm
  | .ap l r => ((line l).1, (line l).2 ++ [r])
  | t => (t, [])
theorem line_dep : ∀ t : Tm, (line t).1.dep ≤ t.dep ∧ (∀ u ∈ (line t).2, u.dep < t.dep) ∧ (line t).2.length ≤ t.dep
  | .nm _ => ⟨Nat.le_refl _, (fun u h => by cases h), Nat.le_refl _⟩
  | .mk _ => ⟨Nat.le_refl _, (fun u h => by cases h), Nat.le_refl _⟩
  | .fn b => ⟨Nat.le_refl _, (fun u h => by cases h), Nat.zero_le _⟩
  | .ap l r => by
    obtain ⟨h1, h2, h3⟩ := line_dep l
    refine ⟨by simp only [line, Tm.dep]; omega, fun u hu => ?_, by simp only [line, Tm.dep, List.length_append, List.length_cons, List.length_nil]; omega⟩
    simp only [line, List.mem_append, List.mem_singleton] at hu
    simp only [Tm.dep]
    rcases hu with hu | rfl
    · have := h2 u hu; omega
    · omega
def Tm.isAp : Tm → Bool
  | .ap _ _ => true
  | _ => false
theorem line_noap : ∀ t : Tm, (line t).1.isAp = false
  | .nm _ => rfl
  | .mk _ => rfl
  | .fn _ => rfl
  | .ap l r => by simp only [line]; exact line_noap l
/-- what a line comes to -/
def cms : Tm → List Tm → List Tm
  | .fn b, [x] => [put x b 0]
  | .mk .I, [x] => [x]
  | .mk .K, [x, _] => [x]
  | .mk .S, [x, y, z] => [.ap (.ap x z) (.ap y z)]
  | .mk .B, [x, y, z] => [.ap x (.ap y z)]
  | .mk .C, [x, y, z] => [.ap (.ap x z) y]
  | _, _ => []
theorem cms_more (h a b c d : Tm) (as : List Tm) : cms h (a :: b :: c :: d :: as) = [] := by
  cases h with
  | mk m => cases m <;> rfl
  | _ => rfl
theorem cms_head (l r : Tm) : cms (line (.ap l r)).1 (line (.ap l r)).2 = (head l r).toList := by
  cases l with
  | nm _ => rfl
  | mk m => cases m <;> rfl
  | fn _ => rfl
  | ap a b =>
    cases a with
    | nm _ => rfl
    | mk m => cases m <;> rfl
    | fn _ => rfl
    | ap c e =>
      cases c with
      | nm _ => rfl
      | mk m => cases m <;> rfl
      | fn _ => rfl
      | ap f g =>
        simp only [line, List.append_assoc, List.cons_append, List.nil_append]
        have : (head (.ap (.ap (.ap f g) e) b) r).toList = [] := rfl
        rw [this]
        cases (line f).2 with
        | nil => exact cms_more _ _ _ _ _ _
        | cons x xs => 
          cases xs with
          | nil => exact cms_more _ _ _ _ _ _
          | cons y ys => 
            cases ys with
            | nil => exact cms_more _ _ _ _ _ _
            | cons z zs => 
              cases zs with
              | nil => exact cms_more _ _ _ _ _ _
              | cons w ws => exact cms_more _ _ _ _ _ _
/-- how many a maker needs -/
def ar : Mkr → Nat
  | .I => 1
  | .K => 2
  | .S => 3
  | .B => 3
  | .C => 3
def hdr : Tm → Nat → Bool
  | .fn _, n => decide (1 ≤ n)
  | .mk m, n => decide (ar m ≤ n)
  | _, _ => false
theorem head_some (l r : Tm) : (head l r).isSome = (match (line l).1 with | .fn _ => decide ((line l).2.length = 0) | .mk m => decide ((line l).2.length + 1 = ar m) | _ => false) := by
  cases l with
  | nm _ => rfl
  | mk m => cases m <;> rfl
  | fn _ => rfl
  | ap a b =>
    cases a with
    | nm _ => rfl
    | mk m => cases m <;> rfl
    | fn _ => rfl
    | ap c e =>
      cases c with
      | nm _ => rfl
      | mk m => cases m <;> rfl
      | fn _ => rfl
      | ap f g =>
        have h0 : (head (.ap (.ap (.ap f g) e) b) r).isSome = false := rfl
        rw [h0]
        have hl : (line (.ap (.ap (.ap f g) e) b)).2.length = (line f).2.length + 3 := by simp only [line, List.length_append, List.length_cons, List.length_nil]
        have h1 : (line (.ap (.ap (.ap f g) e) b)).1 = (line f).1 := rfl
        rw [h1, hl]
        split
        · simp
        · rename_i m _; cases m <;> simp [ar] <;> omega
        · rfl
theorem hdr_step (h : Tm) (n : Nat) (x : Bool) (hx : x = (match h with | .fn _ => decide (n = 0) | .mk m => decide (n + 1 = ar m) | _ => false)) : (x || hdr h n) = hdr h (n + 1) := by
  subst hx
  cases h with
  | nm _ => rfl
  | ap _ _ => rfl
  | fn _ => simp only [hdr]; rw [Bool.eq_iff_iff]; simp; omega
  | mk m => simp only [hdr]; rw [Bool.eq_iff_iff]; simp; omega
theorem can_line : ∀ t : Tm, can t = (hdr (line t).1 (line t).2.length || (can (line t).1 || (line t).2.any can))
  | .nm _ => rfl
  | .mk m => by cases m <;> rfl
  | .fn b => by
    simp only [line, List.length_nil, List.any_nil, hdr, Bool.or_false]
    rfl
  | .ap l r => by
    have ih := can_line l
    have e : can (.ap l r) = ((head l r).isSome || (can l || can r)) := by
      simp only [can, stp1]
      cases head l r with
      | some u => rfl
      | none => cases stp1 l with
        | some u => rfl
        | none => cases stp1 r <;> rfl
    rw [e, ih]
    have hs := hdr_step (line l).1 (line l).2.length (head l r).isSome (head_some l r)
    simp only [line, List.length_append, List.length_cons, List.length_nil, List.any_append, List.any_cons, List.any_nil, Bool.or_false]
    rw [← hs]
    simp only [Bool.or_assoc]
theorem compW_map {g : PyData → Rho → Option Rho} {q : Rho → Option Bool} {f : Rho → Option W} {r : Rho} {α : Type} (h e : α → PyData) : ∀ ts : List α, (∀ t ∈ ts, ∃ r1, g (e t) r = some r1 ∧ q r1 = some true ∧ f r1 = some (.d (h t))) → compW g q f r (ts.map e) = some (ts.map h)
  | [], _ => rfl
  | t :: ts, k => by
    obtain ⟨r1, h1, h2, h3⟩ := k t List.mem_cons_self
    rw [List.map_cons, compW, h1]
    simp only [h2, h3, compW_map h e ts fun t ht => k t (List.mem_cons_of_mem _ ht)]
    rfl
theorem bls_map {α : Type} (h : α → Bool) : ∀ ts : List α, bls (ts.map fun t => PyData.bool (h t)) = some (ts.map h)
  | [] => rfl
  | t :: ts => by rw [List.map_cons, bls, bls_map h ts]; rfl
theorem imms_bools {α : Type} (h : α → Bool) (ts : List α) : imms (ts.map fun t => PyData.bool (h t)) = true := imms_mem.mpr fun x hx => by
  obtain ⟨t, _, rfl⟩ := List.mem_map.mp hx
  rfl
theorem wIx_l0 (x : PyData) (xs : List PyData) : wIx (.d (.list (x :: xs))) (.d (.int 0)) = some (.d x) := by
  have e : atI (x :: xs) 0 = some x := by
    unfold atI ixN
    rw [if_pos (by decide), if_pos (by simp only [List.length_cons]; omega)]
    rfl
  simp only [wIx, e]
theorem wIx_l1 (x y : PyData) (xs : List PyData) : wIx (.d (.list (x :: y :: xs))) (.d (.int 1)) = some (.d y) := by
  have e : atI (x :: y :: xs) 1 = some y := by
    unfold atI ixN
    rw [if_pos (by decide), if_pos (by simp only [List.length_cons]; omega)]
    rfl
  simp only [wIx, e]
theorem cut1 (x : PyData) (xs : List PyData) : cutD (x :: xs) (some 1) none = xs := by
  have e : HT.sIx (x :: xs).length 0 (some 1) = 1 := by simp only [HT.sIx, List.length_cons]; rw [if_neg (by decide)]; simp
  unfold cutD
  rw [e, HT.sIx_none]
  simp
theorem whl_more {q : Rho → Option Bool} {g : CS} : ∀ (n m : Nat) (r : Rho) (o : Out), n ≤ m → whl q g n r = some o → whl q g m r = some o
  | 0, _, _, _, _, h => by cases h
  | n + 1, 0, _, _, hm, _ => by omega
  | n + 1, m + 1, r, o, hm, h => by
    unfold whl at h ⊢
    cases e1 : q r with
    | none => rw [e1] at h; cases h
    | some b =>
      rw [e1] at h
      cases b with
      | false => exact h
      | true =>
        simp only [] at h ⊢
        cases e2 : g r with
        | none => rw [e2] at h; cases h
        | some o2 =>
          rw [e2] at h
          cases o2 with
          | nx r' => exact whl_more n m _ _ (by omega) h
          | ct r' => exact whl_more n m _ _ (by omega) h
          | bk r' => exact h
          | rt z => exact h
theorem wEq_I (k : Nat) (t : Tm) : wEq k (.d t.d) (.d (.str "I")) = some (.d (.bool (decide (t = .mk .I)))) := wEq_d (u := .mk .I) (by simp only [Tm.dep]; omega)
theorem wEq_K (k : Nat) (t : Tm) : wEq k (.d t.d) (.d (.str "K")) = some (.d (.bool (decide (t = .mk .K)))) := wEq_d (u := .mk .K) (by simp only [Tm.dep]; omega)
theorem wEq_S (k : Nat) (t : Tm) : wEq k (.d t.d) (.d (.str "S")) = some (.d (.bool (decide (t = .mk .S)))) := wEq_d (u := .mk .S) (by simp only [Tm.dep]; omega)
theorem wEq_B (k : Nat) (t : Tm) : wEq k (.d t.d) (.d (.str "B")) = some (.d (.bool (decide (t = .mk .B)))) := wEq_d (u := .mk .B) (by simp only [Tm.dep]; omega)
theorem wEq_tup_str (k : Nat) (ds : List PyData) (x : Str) : wEq k (.d (.tuple ds)) (.d (.str x)) = some (.d (.bool false)) := rfl
theorem wEq_int_str (k : Nat) (i : Int) (x : Str) : wEq k (.d (.int i)) (.d (.str x)) = some (.d (.bool false)) := rfl
theorem SBC_l : ("SBC" : Str).cps.toList = [83, 66, 67] := by decide +kernel
theorem in_SBC (k : Nat) (m : Mkr) : wInS k false (.d (.str m.s)) (.d (.str "SBC")) = some (.d (.bool (decide (m ≠ .I ∧ m ≠ .K)))) := by
  rw [mk_sOf]
  show some (W.d (.bool (!(Builtin.Str.occurrences "SBC" ⟨#[m.c]⟩ 0 ("SBC" : Str).length 1).isEmpty))) = _
  rw [PySem.StrLaws.found_one, SBC_l]
  cases m <;> rfl
theorem notin_SBC (k : Nat) (m : Mkr) : wInS k true (.d (.str m.s)) (.d (.str "SBC")) = some (.d (.bool (!decide (m ≠ .I ∧ m ≠ .K)))) := by
  rw [mk_sOf]
  show some (W.d (.bool (!(!(Builtin.Str.occurrences "SBC" ⟨#[m.c]⟩ 0 ("SBC" : Str).length 1).isEmpty)))) = _
  rw [PySem.StrLaws.found_one, SBC_l]
  cases m <;> rfl
theorem notin_SBC_fn (k : Nat) : wInS k true (.d (.str "fn")) (.d (.str "SBC")) = some (.d (.bool true)) := by
  have h : (!(Builtin.Str.occurrences "SBC" "fn" 0 ("SBC" : Str).length 1).isEmpty) = false := by decide +kernel
  show some (W.d (.bool (!(!(Builtin.Str.occurrences "SBC" "fn" 0 ("SBC" : Str).length 1).isEmpty)))) = _
  rw [h]; rfl
/-! ### names from 0 on -/
def Tm.nn : Tm → Bool
  | .nm n => decide (0 ≤ n)
  | .mk _ => true
  | .ap a b => a.nn && b.nn
  | .fn b => b.nn
theorem lift_nn (by_ : Int) (hb : 0 ≤ by_) : ∀ (t : Tm) (d : Int), t.nn = true → (lift by_ t d).nn = true
  | .nm n, d, h => by
    have h : 0 ≤ n := of_decide_eq_true h
    unfold lift
    split
    · exact decide_eq_true (by omega)
    · exact decide_eq_true h
  | .mk m, d, h => rfl
  | .ap a b, d, h => by
    have h' : a.nn = true ∧ b.nn = true := by simpa only [Tm.nn, Bool.and_eq_true] using h
    simp only [lift, Tm.nn, lift_nn by_ hb a d h'.1, lift_nn by_ hb b d h'.2]; rfl
  | .fn b, d, h => lift_nn by_ hb b (d + 1) h
theorem put_nn (x : Tm) (hx : x.nn = true) : ∀ (t : Tm) (d : Int), 0 ≤ d → t.nn = true → (put x t d).nn = true
  | .nm n, d, hd, h => by
    have h : 0 ≤ n := of_decide_eq_true h
    unfold put
    split
    · exact decide_eq_true h
    · split
      · exact lift_nn d hd x 0 hx
      · exact decide_eq_true (by omega)
  | .mk m, d, hd, h => rfl
  | .ap a b, d, hd, h => by
    have h' : a.nn = true ∧ b.nn = true := by simpa only [Tm.nn, Bool.and_eq_true] using h
    simp only [put, Tm.nn, put_nn x hx a d hd h'.1, put_nn x hx b d hd h'.2]; rfl
  | .fn b, d, hd, h => put_nn x hx b (d + 1) (by omega) h
theorem mstep_nn {x l u : Tm} (hx : x.nn = true) (hl : l.nn = true) (h : mstep x l = some u) : u.nn = true := by
  unfold mstep at h
  split at h <;> cases h <;> simp_all [Tm.nn]
theorem head_nn {l r u : Tm} (hl : l.nn = true) (hr : r.nn = true) (h : head l r = some u) : u.nn = true := by
  unfold head at h
  split at h
  · cases h
    exact put_nn r hr _ 0 (by decide) hl
  · exact mstep_nn hr hl h
theorem stp1_nn : ∀ (t u : Tm), t.nn = true → stp1 t = some u → u.nn = true
  | .nm _, _, _, h => by cases h
  | .mk _, _, _, h => by cases h
  | .fn b, u, hn, h => by
    unfold stp1 at h
    split at h
    · rename_i c e
      cases h
      exact stp1_nn b c hn e
    · cases h
  | .ap l r, u, hn, h => by
    have h' : l.nn = true ∧ r.nn = true := by simpa only [Tm.nn, Bool.and_eq_true] using hn
    unfold stp1 at h
    split at h
    · rename_i v e
      cases h
      exact head_nn h'.1 h'.2 e
    · split at h
      · rename_i l' e
        cases h
        simp only [Tm.nn, stp1_nn l l' h'.1 e, h'.2]; rfl
      · split at h
        · rename_i r' e
          cases h
          simp only [Tm.nn, stp1_nn r r' h'.2 e, h'.1]; rfl
        · cases h
theorem Drawn.nn {s d n t} (h : Drawn s d n t) : t.nn = true := by
  induction h with
  | fn _ _ _ ih => exact ih
  | mk => rfl
  | nm n _ h0 => exact decide_eq_true h0
  | ap _ _ _ _ h1 h2 => simp only [Tm.nn, h1, h2]; rfl
theorem drawn_sz {s : Int} {d n : Nat} {t : Tm} (h : Drawn s d n t) (hd : d ≤ 3) : t.sz ≤ n * (4 - d) := by
  induction h with
  | fn h1 h2 h3 ih =>
    rename_i d n t
    have := ih (by omega)
    have hn : 1 ≤ n := by have := h3.lv; have := t.lv_pos; omega
    have e : n * (4 - d) = n * (4 - (d + 1)) + n := by rw [show 4 - d = (4 - (d + 1)) + 1 by omega, Nat.mul_succ]
    simp only [Tm.sz]; omega
  | mk => simp only [Tm.sz]; omega
  | nm => simp only [Tm.sz]; omega
  | ap _ _ _ _ h1 h2 =>
    have := h1 hd
    have := h2 hd
    simp only [Tm.sz, Nat.add_mul]; omega
/-- pairs -/
def Tm.prs : Tm → Nat
  | .nm _ => 0
  | .mk _ => 0
  | .ap a b => a.prs + b.prs + 1
  | .fn b => b.prs
theorem prs_sz : ∀ t : Tm, t.prs + 1 ≤ t.sz
  | .nm _ => Nat.le_refl _
  | .mk _ => Nat.le_refl _
  | .ap a b => by have h1 := prs_sz a; have h2 := prs_sz b; simp only [Tm.prs, Tm.sz]; omega
  | .fn b => by have h1 := prs_sz b; simp only [Tm.prs, Tm.sz]; omega
def prss : List Tm → Nat
  | [] => 0
  | t :: ts => t.prs + prss ts
def szs : List Tm → Nat
  | [] => 0
  | t :: ts => t.sz + szs ts
def nds : Tm → Nat
  | .nm _ => 1
  | .mk _ => 1
  | .ap a b => nds a + nds b + 1
  | .fn b => nds b + 1
def ndss : List Tm → Nat
  | [] => 0
  | t :: ts => nds t + ndss ts
theorem nds_sz : ∀ t : Tm, nds t + 1 ≤ 2 * t.sz
  | .nm _ => Nat.le_refl _
  | .mk _ => Nat.le_refl _
  | .ap a b => by have h1 := nds_sz a; have h2 := nds_sz b; simp only [nds, Tm.sz]; omega
  | .fn b => by have h1 := nds_sz b; simp only [nds, Tm.sz]; omega
theorem nds_pos : ∀ t : Tm, 1 ≤ nds t
  | .nm _ => Nat.le_refl _
  | .mk _ => Nat.le_refl _
  | .ap a b => by simp only [nds]; omega
  | .fn b => by simp only [nds]; omega
theorem imms_d (ts : List Tm) : imms (ts.map Tm.d) = true := imms_mem.mpr fun x hx => by
  obtain ⟨t, _, rfl⟩ := List.mem_map.mp hx
  exact imm_d t
theorem nonempty_ne (k : Nat) (ts : List Tm) : wNe k (.d (.list (ts.map Tm.d))) (.d (.list [])) = some (.d (.bool (!ts.isEmpty))) := by
  have := wNe_tmsL (k := k) (ts := ts) (us := []) (by simp only [deps]; omega)
  rw [List.map_nil] at this
  rw [this]
  cases ts <;> simp
theorem isTup_d (t : Tm) : isTup t.d = (t.isAp || t.isFn) := by cases t <;> rfl
/-- the items of a term's data, "fn" among them -/
def itD : Option Tm → PyData
  | none => .str "fn"
  | some t => t.d
theorem lay_it : ∀ os : List (Option Tm), PyData.canLayAll0 (os.map itD) = true
  | [] => by simp only [List.map_nil, PyData.canLayAll0]
  | none :: ts => by
    have := lay_fn
    simp only [List.map_cons, PyData.canLayAll0, itD, this, lay_it ts]; rfl
  | some t :: ts => by simp only [List.map_cons, PyData.canLayAll0, itD, lay_d t, lay_it ts]; rfl
theorem wEq_it (k : Nat) (os : List (Option Tm)) : wEq k (.d (.list (os.map itD))) (.d (.list [])) = some (.d (.bool os.isEmpty)) := by
  have h : eqOk k (.list (os.map itD)) (.list []) = true := by
    simp only [eqOk, lay_it, PyData.canLayAll0, Bool.and_self, Bool.true_and, PyData.depth, PyData.depthAll]
    exact decide_eq_true (by omega)
  simp only [wEq, h, if_true, eqD]
  cases os <;> rfl
theorem imms_it (os : List (Option Tm)) : imms (os.map itD) = true := imms_mem.mpr fun x hx => by
  obtain ⟨t, _, rfl⟩ := List.mem_map.mp hx
  cases t with
  | none => rfl
  | some t => exact imm_d t
/-! ### put to names -/
def putN (u : Tm) : Nat → Tm
  | 0 => u
  | n + 1 => putN (.ap u (.nm n)) n
def putTo (t : Tm) (n : Nat) : Tm := putN (lift n t 0) n
theorem putN_sz : ∀ (n : Nat) (u : Tm), (putN u n).sz = u.sz + n
  | 0, u => rfl
  | n + 1, u => by rw [putN, putN_sz n]; simp only [Tm.sz]; omega
theorem putN_nn : ∀ (n : Nat) (u : Tm), u.nn = true → (putN u n).nn = true
  | 0, u, h => h
  | n + 1, u, h => putN_nn n _ (by simp only [Tm.nn, h, Bool.true_and]; exact decide_eq_true (by omega))
theorem putTo_sz (t : Tm) (n : Nat) : (putTo t n).sz = t.sz + n := by rw [putTo, putN_sz, lift_sz]
theorem putTo_nn {t : Tm} (h : t.nn = true) (n : Nat) : (putTo t n).nn = true := putN_nn n _ (lift_nn _ (by omega) t 0 h)
theorem row_nn : ∀ t : Tm, t.row = true → t.nn = true
  | .nm _, h => by cases h
  | .mk _, _ => rfl
  | .fn _, h => by cases h
  | .ap a b, h => by
    have h' : a.row = true ∧ b.row = true := by simpa only [Tm.row, Bool.and_eq_true] using h
    simp only [Tm.nn, row_nn a h'.1, row_nn b h'.2]; rfl
theorem row_sz : ∀ t : Tm, t.row = true → t.sz = t.lv
  | .nm _, h => by cases h
  | .mk _, _ => rfl
  | .fn _, h => by cases h
  | .ap a b, h => by
    have h' : a.row = true ∧ b.row = true := by simpa only [Tm.row, Bool.and_eq_true] using h
    simp only [Tm.sz, Tm.lv, row_sz a h'.1, row_sz b h'.2]
/-- names below a count alone -/
def ptn (n : Int) : Tm → Bool
  | .nm i => decide (i < n)
  | .mk _ => false
  | .fn _ => false
  | .ap a b => ptn n a && ptn n b
theorem rng_down (n : Nat) (h : n ≤ 7) : (-1 : Int) ≠ 0 ∧ (-1 : Int).natAbs < 1073741824 ∧ Builtin.Range.small ((n : Int) - 1) (-1) (-1) = true ∧ 0 ≤ Builtin.Range.rangeSize ((n : Int) - 1) (-1) (-1) ∧ (Builtin.Range.rangeSize ((n : Int) - 1) (-1) (-1)).toNat = n := by
  have g : n = 0 ∨ n = 1 ∨ n = 2 ∨ n = 3 ∨ n = 4 ∨ n = 5 ∨ n = 6 ∨ n = 7 := by omega
  rcases g with rfl | rfl | rfl | rfl | rfl | rfl | rfl | rfl <;> decide
/-! ### kin -/
theorem lift_lift (a d : Int) (ha : 0 ≤ a) (hd : 0 ≤ d) : ∀ (x : Tm) (e c : Int), e ≤ c → lift a (lift d x e) (c + d) = lift d (lift a x c) e
  | .nm m, e, c, h => by
    by_cases h1 : e ≤ m
    · by_cases h2 : c ≤ m
      · simp only [lift, h1, h2, if_true]
        rw [if_pos (show c + d ≤ m + d by omega), if_pos (show e ≤ m + a by omega)]
        congr 1; omega
      · simp only [lift, h1, h2, if_true, if_false]
        rw [if_neg (show ¬ c + d ≤ m + d by omega)]
    · have h2 : ¬ c ≤ m := by omega
      simp only [lift, h1, h2, if_false]
      rw [if_neg (show ¬ c + d ≤ m by omega)]
  | .mk m, e, c, h => rfl
  | .ap x y, e, c, h => by simp only [lift, lift_lift a d ha hd x e c h, lift_lift a d ha hd y e c h]
  | .fn x, e, c, h => by
    have := lift_lift a d ha hd x (e + 1) (c + 1) (by omega)
    simp only [lift]
    rw [show c + d + 1 = c + 1 + d by omega, this]
theorem lift_put (a : Int) (ha : 0 ≤ a) (x : Tm) : ∀ (t : Tm) (d c : Int), 0 ≤ d → 0 ≤ c → lift a (put x t d) (c + d) = put (lift a x c) (lift a t (c + d + 1)) d
  | .nm n, d, c, hd, hc => by
    by_cases h1 : n < d
    · have e1 : ¬ c + d ≤ n := by omega
      have e2 : ¬ c + d + 1 ≤ n := by omega
      simp only [put, lift, h1, e1, e2, if_true, if_false]
    · by_cases h2 : n = d
      · subst h2
        have e2 : ¬ c + n + 1 ≤ n := by omega
        simp only [put, lift, h1, e2, if_true, if_false]
        exact lift_lift a n ha hd x 0 c hc
      · by_cases h3 : c + d + 1 ≤ n
        · have e1 : c + d ≤ n - 1 := by omega
          have e2 : ¬ n + a < d := by omega
          have e3 : ¬ n + a = d := by omega
          simp only [put, lift, h1, h2, h3, e1, e2, e3, if_true, if_false]
          congr 1; omega
        · have e1 : ¬ c + d ≤ n - 1 := by omega
          simp only [put, lift, h1, h2, h3, e1, if_false]
  | .mk m, d, c, hd, hc => rfl
  | .ap u v, d, c, hd, hc => by simp only [put, lift, lift_put a ha x u d c hd hc, lift_put a ha x v d c hd hc]
  | .fn u, d, c, hd, hc => by
    have := lift_put a ha x u (d + 1) c (by omega) hc
    simp only [put, lift]
    rw [show c + d + 1 = c + (d + 1) by omega, this]
theorem lift_mstep (a c : Int) (x : Tm) : ∀ l : Tm, mstep (lift a x c) (lift a l c) = (mstep x l).map (lift a · c)
  | .nm n => by simp only [lift]; split <;> rfl
  | .mk m => by cases m <;> rfl
  | .fn b => rfl
  | .ap (.nm n) b => by simp only [lift]; split <;> rfl
  | .ap (.fn n) b => rfl
  | .ap (.mk m) b => by cases m <;> rfl
  | .ap (.ap (.nm n) e) b => by simp only [lift]; split <;> rfl
  | .ap (.ap (.fn n) e) b => rfl
  | .ap (.ap (.ap n o) e) b => rfl
  | .ap (.ap (.mk m) e) b => by cases m <;> rfl
theorem lift_head (a c : Int) (ha : 0 ≤ a) (hc : 0 ≤ c) (l r : Tm) : head (lift a l c) (lift a r c) = (head l r).map (lift a · c) := by
  cases l with
  | fn b =>
    have := lift_put a ha r b 0 c (by decide) hc
    rw [Int.add_zero] at this
    simp only [lift, head, Option.map_some, this]
  | nm n => simp only [lift]; split <;> rfl
  | mk m => exact lift_mstep a c r (.mk m)
  | ap x y => exact lift_mstep a c r (.ap x y)
theorem lift_stp (a : Int) (ha : 0 ≤ a) : ∀ (t : Tm) (c : Int), 0 ≤ c → stp1 (lift a t c) = (stp1 t).map (lift a · c)
  | .nm n, c, hc => by simp only [lift]; split <;> rfl
  | .mk m, c, hc => rfl
  | .fn b, c, hc => by
    simp only [lift, stp1, lift_stp a ha b (c + 1) (by omega)]
    cases stp1 b <;> rfl
  | .ap l r, c, hc => by
    simp only [lift, stp1, lift_head a c ha hc, lift_stp a ha l c hc, lift_stp a ha r c hc]
    cases head l r with
    | some u => rfl
    | none => cases stp1 l with
      | some u => rfl
      | none => cases stp1 r <;> rfl
theorem endOf_none {t : Tm} (h : stp1 t = none) (n : Nat) : endOf n t = (t, 0) := by
  cases n with
  | zero => rfl
  | succ n => unfold endOf; rw [h]; split <;> rfl
theorem endOf_add : ∀ (m n : Nat) (t : Tm), (endOf m t).1.sz ≤ 200 → endOf (m + n) t = ((endOf n (endOf m t).1).1, (endOf m t).2 + (endOf n (endOf m t).1).2)
  | 0, n, t, h => by simp only [endOf, Nat.zero_add]
  | m + 1, n, t, h => by
    by_cases hs : t.sz ≤ 200
    · cases e : stp1 t with
      | none =>
        rw [endOf_none e, endOf_none e]
        show (t, 0) = ((endOf n t).1, 0 + (endOf n t).2)
        rw [endOf_none e]
        rfl
      | some u =>
        have e1 : endOf (m + 1) t = ((endOf m u).1, (endOf m u).2 + 1) := by simp only [endOf, hs, if_true, e]
        have e2 : endOf (m + 1 + n) t = ((endOf (m + n) u).1, (endOf (m + n) u).2 + 1) := by
          rw [show m + 1 + n = (m + n) + 1 by omega]
          simp only [endOf, hs, if_true, e]
        rw [e1] at h ⊢
        rw [e2, endOf_add m n u h]
        simp only []
        congr 1
        omega
    · have e1 : endOf (m + 1) t = (t, 0) := by simp only [endOf, hs, if_false]
      rw [e1] at h
      exact absurd h hs
theorem endOf_nn : ∀ (m : Nat) (t : Tm), t.nn = true → (endOf m t).1.nn = true
  | 0, t, h => h
  | m + 1, t, h => by
    unfold endOf
    split
    · split
      · rename_i u e; exact endOf_nn m u (stp1_nn t u h e)
      · exact h
    · exact h
end Nm
namespace Nm
open PySem L2
/-! ### names from outside -/
def names : Tm → Int → List Int
  | .nm n, d => if d ≤ n then [n - d] else []
  | .mk _, _ => []
  | .ap a b, d => names a d ++ names b d
  | .fn b, d => names b (d + 1)
theorem names_len : ∀ (t : Tm) (d : Int), (names t d).length ≤ t.lv
  | .nm n, d => by unfold names; split <;> simp [Tm.lv]
  | .mk m, d => by simp [names, Tm.lv]
  | .ap a b, d => by
    have h1 := names_len a d
    have h2 := names_len b d
    simp only [names, Tm.lv, List.length_append]; omega
  | .fn b, d => by simpa only [names, Tm.lv] using names_len b (d + 1)
theorem lv_sz : ∀ t : Tm, t.lv ≤ t.sz
  | .nm n => Nat.le_refl _
  | .mk m => Nat.le_refl _
  | .ap a b => by have h1 := lv_sz a; have h2 := lv_sz b; simp only [Tm.lv, Tm.sz]; omega
  | .fn b => by have h1 := lv_sz b; simp only [Tm.lv, Tm.sz]; omega
def fns : Tm → Nat
  | .nm _ => 0
  | .mk _ => 0
  | .ap a b => fns a + fns b
  | .fn b => fns b + 1
theorem lv_fns : ∀ t : Tm, t.sz = t.lv + fns t
  | .nm n => rfl
  | .mk m => rfl
  | .ap a b => by have h1 := lv_fns a; have h2 := lv_fns b; simp only [Tm.lv, Tm.sz, fns]; omega
  | .fn b => by have h1 := lv_fns b; simp only [Tm.lv, Tm.sz, fns]; omega
/-- without functions -/
def noF : Tm → Bool
  | .nm _ => true
  | .mk _ => true
  | .ap a b => noF a && noF b
  | .fn _ => false
theorem noF_fns : ∀ t : Tm, noF t = true → fns t = 0
  | .nm n, _ => rfl
  | .mk m, _ => rfl
  | .ap a b, h => by
    have h' : noF a = true ∧ noF b = true := by simpa only [noF, Bool.and_eq_true] using h
    simp only [fns, noF_fns a h'.1, noF_fns b h'.2]
  | .fn b, h => by cases h
theorem fns_noF : ∀ t : Tm, fns t = 0 → noF t = true
  | .nm n, _ => rfl
  | .mk m, _ => rfl
  | .ap a b, h => by
    simp only [fns] at h
    simp only [noF, fns_noF a (by omega), fns_noF b (by omega)]; rfl
  | .fn b, h => by simp only [fns] at h; omega
def has0 : Tm → Bool
  | .nm n => decide (n = 0)
  | .mk _ => false
  | .ap a b => has0 a || has0 b
  | .fn _ => false
def near : Tm → Tm
  | .nm n => .nm (n - 1)
  | .mk m => .mk m
  | .ap a b => .ap (near a) (near b)
  | .fn b => .fn b
/-- the ways: 0 plain, 1 sparing, 2 turns -/
def taken (w : Nat) : Tm → Tm
  | .nm n => if n = 0 then .mk .I else .ap (.mk .K) (.nm (n - 1))
  | .mk m => .ap (.mk .K) (.mk m)
  | .fn b => .fn b
  | .ap a b =>
    if w ≠ 0 ∧ (has0 a || has0 b) = false then .ap (.mk .K) (.ap (near a) (near b))
    else if w = 2 ∧ has0 a = false then .ap (.ap (.mk .B) (near a)) (taken w b)
    else if w = 2 ∧ has0 b = false then .ap (.ap (.mk .C) (taken w a)) (near b)
    else .ap (.ap (.mk .S) (taken w a)) (taken w b)
def outW (w : Nat) : Tm → Tm
  | .nm n => .nm n
  | .mk m => .mk m
  | .ap a b => .ap (outW w a) (outW w b)
  | .fn b => taken w (outW w b)
theorem outW_noF (w : Nat) : ∀ t : Tm, noF t = true → outW w t = t
  | .nm n, _ => rfl
  | .mk m, _ => rfl
  | .ap a b, h => by
    have h' : noF a = true ∧ noF b = true := by simpa only [noF, Bool.and_eq_true] using h
    simp only [outW, outW_noF w a h'.1, outW_noF w b h'.2]
  | .fn b, h => by cases h
theorem near_noF : ∀ t : Tm, noF t = true → noF (near t) = true
  | .nm n, _ => rfl
  | .mk m, _ => rfl
  | .ap a b, h => by
    have h' : noF a = true ∧ noF b = true := by simpa only [noF, Bool.and_eq_true] using h
    simp only [near, noF, near_noF a h'.1, near_noF b h'.2]; rfl
  | .fn b, h => by cases h
theorem taken_noF (w : Nat) : ∀ t : Tm, noF t = true → noF (taken w t) = true
  | .nm n, _ => by unfold taken; split <;> rfl
  | .mk m, _ => rfl
  | .ap a b, h => by
    have h' : noF a = true ∧ noF b = true := by simpa only [noF, Bool.and_eq_true] using h
    have n1 := near_noF a h'.1
    have n2 := near_noF b h'.2
    have t1 := taken_noF w a h'.1
    have t2 := taken_noF w b h'.2
    unfold taken
    split
    · simp [noF, n1, n2]
    · split
      · simp [noF, n1, t2]
      · split
        · simp [noF, t1, n2]
        · simp [noF, t1, t2]
  | .fn b, h => by cases h
theorem outW_free (w : Nat) : ∀ t : Tm, noF (outW w t) = true
  | .nm n => rfl
  | .mk m => rfl
  | .ap a b => by simp only [outW, noF, outW_free w a, outW_free w b]; rfl
  | .fn b => taken_noF w _ (outW_free w b)
theorem near_lift : ∀ t : Tm, noF t = true → t.nn = true → lift (-1) t 0 = near t
  | .nm n, _, h => by
    have h : 0 ≤ n := of_decide_eq_true h
    simp only [lift, near, h, if_true]; congr 1
  | .mk m, _, _ => rfl
  | .ap a b, h, g => by
    have h' : noF a = true ∧ noF b = true := by simpa only [noF, Bool.and_eq_true] using h
    have g' : a.nn = true ∧ b.nn = true := by simpa only [Tm.nn, Bool.and_eq_true] using g
    simp only [lift, near, near_lift a h'.1 g'.1, near_lift b h'.2 g'.2]
  | .fn b, h, _ => by cases h
theorem has0_names : ∀ t : Tm, noF t = true → has0 t = decide ((0 : Int) ∈ names t 0)
  | .nm n, _ => by
    unfold has0 names
    by_cases h : n = 0
    · subst h; decide
    · by_cases g : (0 : Int) ≤ n
      · have q : ¬ (0 : Int) = n := fun e => h e.symm
        simp [h, g, q]
      · simp [h, g]
  | .mk m, _ => rfl
  | .ap a b, h => by
    have h' : noF a = true ∧ noF b = true := by simpa only [noF, Bool.and_eq_true] using h
    simp only [has0, names, has0_names a h'.1, has0_names b h'.2, List.mem_append, Bool.decide_or]
  | .fn b, h => by cases h
theorem names_near : ∀ (t : Tm) (d : Int), noF t = true → names (near t) d = names t (d + 1)
  | .nm n, d, _ => by
    simp only [near, names]
    by_cases h : d ≤ n - 1
    · rw [if_pos h, if_pos (by omega)]; congr 1; omega
    · rw [if_neg h, if_neg (by omega)]
  | .mk m, d, _ => rfl
  | .ap a b, d, h => by
    have h' : noF a = true ∧ noF b = true := by simpa only [noF, Bool.and_eq_true] using h
    simp only [near, names, names_near a d h'.1, names_near b d h'.2]
  | .fn b, d, h => by cases h
theorem names_taken (w : Nat) : ∀ (t : Tm) (d : Int), 0 ≤ d → noF t = true → names (taken w t) d = names t (d + 1)
  | .nm n, d, hd, _ => by
    unfold taken
    by_cases h : n = 0
    · subst h
      rw [if_pos rfl]
      simp only [names]
      rw [if_neg (by omega)]
    · rw [if_neg h]
      simp only [names, List.nil_append]
      by_cases h : d ≤ n - 1
      · rw [if_pos h, if_pos (by omega)]; congr 1; omega
      · rw [if_neg h, if_neg (by omega)]
  | .mk m, d, hd, _ => rfl
  | .ap a b, d, hd, h => by
    have h' : noF a = true ∧ noF b = true := by simpa only [noF, Bool.and_eq_true] using h
    have n1 := names_near a d h'.1
    have n2 := names_near b d h'.2
    have t1 := names_taken w a d hd h'.1
    have t2 := names_taken w b d hd h'.2
    unfold taken
    split
    · simp only [names, n1, n2, List.nil_append]
    · split
      · simp only [names, n1, t2, List.nil_append]
      · split
        · simp only [names, t1, n2, List.nil_append]
        · simp only [names, t1, t2, List.nil_append]
  | .fn b, d, _, h => by cases h
theorem names_out (w : Nat) : ∀ (t : Tm) (d : Int), 0 ≤ d → names (outW w t) d = names t d
  | .nm n, d, _ => rfl
  | .mk m, d, _ => rfl
  | .ap a b, d, hd => by simp only [outW, names, names_out w a d hd, names_out w b d hd]
  | .fn b, d, hd => by
    rw [show names (.fn b) d = names b (d + 1) from rfl, ← names_out w b (d + 1) (by omega)]
    exact names_taken w _ d hd (outW_free w b)
/-! ### names stay from 0 on -/
theorem near_nn : ∀ t : Tm, noF t = true → t.nn = true → has0 t = false → (near t).nn = true
  | .nm n, _, h, g => by
    have h : 0 ≤ n := of_decide_eq_true h
    have g : ¬ n = 0 := of_decide_eq_false g
    exact decide_eq_true (by omega)
  | .mk m, _, _, _ => rfl
  | .ap a b, h, g, q => by
    have h' : noF a = true ∧ noF b = true := by simpa only [noF, Bool.and_eq_true] using h
    have g' : a.nn = true ∧ b.nn = true := by simpa only [Tm.nn, Bool.and_eq_true] using g
    have q' : has0 a = false ∧ has0 b = false := by simpa only [has0, Bool.or_eq_false_iff] using q
    simp only [near, Tm.nn, near_nn a h'.1 g'.1 q'.1, near_nn b h'.2 g'.2 q'.2]; rfl
  | .fn b, h, _, _ => by cases h
theorem taken_nn (w : Nat) : ∀ t : Tm, noF t = true → t.nn = true → (taken w t).nn = true
  | .nm n, _, h => by
    have h : 0 ≤ n := of_decide_eq_true h
    unfold taken
    split
    · rfl
    · simp only [Tm.nn, Bool.true_and]; exact decide_eq_true (by omega)
  | .mk m, _, _ => rfl
  | .ap a b, h, g => by
    have h' : noF a = true ∧ noF b = true := by simpa only [noF, Bool.and_eq_true] using h
    have g' : a.nn = true ∧ b.nn = true := by simpa only [Tm.nn, Bool.and_eq_true] using g
    have t1 := taken_nn w a h'.1 g'.1
    have t2 := taken_nn w b h'.2 g'.2
    unfold taken
    split
    · rename_i q
      have q' : has0 a = false ∧ has0 b = false := by simpa only [Bool.or_eq_false_iff] using q.2
      simp only [Tm.nn, near_nn a h'.1 g'.1 q'.1, near_nn b h'.2 g'.2 q'.2]; rfl
    · split
      · rename_i q
        simp only [Tm.nn, near_nn a h'.1 g'.1 q.2, t2]; rfl
      · split
        · rename_i q
          simp only [Tm.nn, near_nn b h'.2 g'.2 q.2, t1]; rfl
        · simp only [Tm.nn, t1, t2]; rfl
  | .fn b, h, _ => by cases h
theorem outW_nn (w : Nat) : ∀ t : Tm, t.nn = true → (outW w t).nn = true
  | .nm n, h => h
  | .mk m, _ => rfl
  | .ap a b, g => by
    have g' : a.nn = true ∧ b.nn = true := by simpa only [Tm.nn, Bool.and_eq_true] using g
    simp only [outW, Tm.nn, outW_nn w a g'.1, outW_nn w b g'.2]; rfl
  | .fn b, h => taken_nn w _ (outW_free w b) (outW_nn w b h)
/-! ### how deep, how great -/
theorem near_dep : ∀ t : Tm, (near t).dep = t.dep
  | .nm n => rfl
  | .mk m => rfl
  | .ap a b => by simp only [near, Tm.dep, near_dep a, near_dep b]
  | .fn b => rfl
theorem near_sz : ∀ t : Tm, (near t).sz = t.sz
  | .nm n => rfl
  | .mk m => rfl
  | .ap a b => by simp only [near, Tm.sz, near_sz a, near_sz b]
  | .fn b => rfl
theorem taken_dep (w : Nat) : ∀ t : Tm, noF t = true → (taken w t).dep ≤ 2 * t.dep + 1
  | .nm n, _ => by unfold taken; split <;> simp only [Tm.dep] <;> omega
  | .mk m, _ => by simp only [taken, Tm.dep]; omega
  | .ap a b, h => by
    have h' : noF a = true ∧ noF b = true := by simpa only [noF, Bool.and_eq_true] using h
    have n1 := near_dep a
    have n2 := near_dep b
    have t1 := taken_dep w a h'.1
    have t2 := taken_dep w b h'.2
    unfold taken
    split
    · simp only [Tm.dep]; omega
    · split
      · simp only [Tm.dep]; omega
      · split
        · simp only [Tm.dep]; omega
        · simp only [Tm.dep]; omega
  | .fn b, h => by cases h
theorem outW_dep (w : Nat) : ∀ t : Tm, (outW w t).dep + 1 ≤ 2 ^ fns t * t.lv
  | .nm n => by simp [outW, Tm.dep, fns, Tm.lv]
  | .mk m => by simp [outW, Tm.dep, fns, Tm.lv]
  | .ap a b => by
    have h1 := outW_dep w a
    have h2 := outW_dep w b
    have p1 := a.lv_pos
    have p2 := b.lv_pos
    have q1 : 2 ^ fns a * a.lv ≤ 2 ^ (fns a + fns b) * a.lv := Nat.mul_le_mul_right _ (Nat.pow_le_pow_right (by decide) (by omega))
    have q2 : 2 ^ fns b * b.lv ≤ 2 ^ (fns a + fns b) * b.lv := Nat.mul_le_mul_right _ (Nat.pow_le_pow_right (by decide) (by omega))
    have q3 : 1 * 1 ≤ 2 ^ (fns a + fns b) * a.lv := Nat.mul_le_mul (Nat.pow_pos (by decide)) p1
    have q4 : 1 * 1 ≤ 2 ^ (fns a + fns b) * b.lv := Nat.mul_le_mul (Nat.pow_pos (by decide)) p2
    simp only [outW, Tm.dep, fns, Tm.lv, Nat.mul_add]
    omega
  | .fn b => by
    have h1 := outW_dep w b
    have h2 := taken_dep w (outW w b) (outW_free w b)
    simp only [outW, fns, Tm.lv, Nat.pow_succ]
    have e : 2 ^ fns b * 2 * b.lv = 2 * (2 ^ fns b * b.lv) := by rw [Nat.mul_comm (2 ^ fns b) 2, Nat.mul_assoc]
    omega
/-- how often the name 0 comes -/
def cnt0 (t : Tm) : Nat := (names t 0).count 0
theorem cnt0_has {t : Tm} (h : noF t = true) (g : has0 t = false) : cnt0 t = 0 := by
  rw [has0_names t h] at g
  exact List.count_eq_zero.mpr (of_decide_eq_false g)
/-- by the plain way: three times as many, less one and less how often -/
theorem plain_sz : ∀ t : Tm, noF t = true → t.nn = true → (taken 0 t).sz + 1 + cnt0 t = 3 * t.sz
  | .nm n, _, h => by
    have h : 0 ≤ n := of_decide_eq_true h
    unfold taken cnt0 names
    rw [if_pos h]
    by_cases g : n = 0
    · subst g; rfl
    · rw [if_neg g]
      have q : ¬ n - 0 = (0 : Int) := by omega
      simp only [Tm.sz, List.count_cons, List.count_nil, beq_iff_eq, q, if_false]
  | .mk m, _, _ => rfl
  | .ap a b, h, g => by
    have h' : noF a = true ∧ noF b = true := by simpa only [noF, Bool.and_eq_true] using h
    have g' : a.nn = true ∧ b.nn = true := by simpa only [Tm.nn, Bool.and_eq_true] using g
    have h1 := plain_sz a h'.1 g'.1
    have h2 := plain_sz b h'.2 g'.2
    have e : taken 0 (.ap a b) = .ap (.ap (.mk .S) (taken 0 a)) (taken 0 b) := by
      unfold taken
      rw [if_neg (by omega), if_neg (by omega), if_neg (by omega)]
      cases a <;> cases b <;> rfl
    rw [e]
    simp only [cnt0, names, List.count_append, Tm.sz] at h1 h2 ⊢
    omega
  | .fn b, h, _ => by cases h
theorem spare_sz : ∀ t : Tm, noF t = true → t.nn = true → (taken 1 t).sz + 1 + cnt0 t ≤ 3 * t.sz
  | .nm n, a, b => Nat.le_of_eq (plain_sz (.nm n) a b)
  | .mk m, _, _ => Nat.le_refl 3
  | .ap a b, h, g => by
    have h' : noF a = true ∧ noF b = true := by simpa only [noF, Bool.and_eq_true] using h
    have g' : a.nn = true ∧ b.nn = true := by simpa only [Tm.nn, Bool.and_eq_true] using g
    have h1 := spare_sz a h'.1 g'.1
    have h2 := spare_sz b h'.2 g'.2
    have p1 := a.sz_pos
    have p2 := b.sz_pos
    unfold taken
    split
    · rename_i q
      have c := cnt0_has (t := .ap a b) h q.2
      rw [c]
      simp only [Tm.sz, near_sz]; omega
    · rw [if_neg (by omega), if_neg (by omega)]
      simp only [cnt0, names, List.count_append, Tm.sz] at h1 h2 ⊢
      omega
  | .fn b, h, _ => by cases h
theorem out_spare (t : Tm) : t.nn = true → (outW 1 t).sz ≤ (outW 0 t).sz := by
  induction t with
  | nm n => intro _; exact Nat.le_refl _
  | mk m => intro _; exact Nat.le_refl _
  | ap a b h1 h2 =>
    intro g
    have g' : a.nn = true ∧ b.nn = true := by simpa only [Tm.nn, Bool.and_eq_true] using g
    have h1 := h1 g'.1
    have h2 := h2 g'.2
    simp only [outW, Tm.sz]; omega
  | fn b ih =>
    intro g
    have ih := ih g
    have h1 := spare_sz (outW 1 b) (outW_free 1 b) (outW_nn 1 b g)
    have h2 := plain_sz (outW 0 b) (outW_free 0 b) (outW_nn 0 b g)
    simp only [cnt0, names_out _ b 0 (Int.le_refl 0)] at h1 h2
    simp only [outW]; omega
/-- the one is the other with other makers and less in front -/
inductive Lss : Tm → Tm → Prop
  | nm (n : Int) : Lss (.nm n) (.nm n)
  | mk (m m' : Mkr) : Lss (.mk m) (.mk m')
  | ap {a b a' b' : Tm} : Lss a a' → Lss b b' → Lss (.ap a b) (.ap a' b')
  | dr {a b z : Tm} : z.row = true → Lss a b → Lss a (.ap z b)
theorem Lss.sz {a b : Tm} (h : Lss a b) : a.sz ≤ b.sz := by
  induction h with
  | nm n => exact Nat.le_refl _
  | mk => exact Nat.le_refl _
  | ap _ _ h1 h2 => simp only [Tm.sz]; omega
  | dr _ _ h => simp only [Tm.sz]; omega
theorem row_has0 : ∀ t : Tm, t.row = true → has0 t = false
  | .nm n, h => by cases h
  | .mk m, _ => rfl
  | .ap a b, h => by
    have h' : a.row = true ∧ b.row = true := by simpa only [Tm.row, Bool.and_eq_true] using h
    simp only [has0, row_has0 a h'.1, row_has0 b h'.2]; rfl
  | .fn b, h => by cases h
theorem row_near : ∀ t : Tm, t.row = true → (near t).row = true
  | .nm n, h => by cases h
  | .mk m, _ => rfl
  | .ap a b, h => by
    have h' : a.row = true ∧ b.row = true := by simpa only [Tm.row, Bool.and_eq_true] using h
    simp only [near, Tm.row, row_near a h'.1, row_near b h'.2]; rfl
  | .fn b, h => by cases h
theorem Lss.has {a b : Tm} (h : Lss a b) : has0 a = has0 b := by
  induction h with
  | nm n => rfl
  | mk => rfl
  | ap _ _ h1 h2 => simp only [has0, h1, h2]
  | dr r _ h => simp only [has0, row_has0 _ r, h, Bool.false_or]
theorem Lss.near {a b : Tm} (h : Lss a b) : Lss (near a) (near b) := by
  induction h with
  | nm n => exact .nm _
  | mk => exact .mk _ _
  | ap _ _ h1 h2 => exact .ap h1 h2
  | dr r _ h => exact .dr (row_near _ r) h
/-- what has not the name: (K, it) -/
theorem taken1_no : ∀ t : Tm, noF t = true → has0 t = false → taken 1 t = .ap (.mk .K) (near t)
  | .nm n, _, h => by
    have h : ¬ n = 0 := of_decide_eq_false h
    unfold taken; rw [if_neg h]; rfl
  | .mk m, _, _ => rfl
  | .ap a b, _, h => by
    unfold taken
    rw [if_pos ⟨by decide, h⟩]; rfl
  | .fn b, h, _ => by cases h
theorem taken2_no : ∀ t : Tm, noF t = true → has0 t = false → taken 2 t = .ap (.mk .K) (near t)
  | .nm n, _, h => by
    have h : ¬ n = 0 := of_decide_eq_false h
    unfold taken; rw [if_neg h]; rfl
  | .mk m, _, _ => rfl
  | .ap a b, _, h => by
    unfold taken
    rw [if_pos ⟨by decide, h⟩]; rfl
  | .fn b, h, _ => by cases h
theorem row_noF : ∀ t : Tm, t.row = true → noF t = true
  | .nm n, h => by cases h
  | .mk m, _ => rfl
  | .ap a b, h => by
    have h' : a.row = true ∧ b.row = true := by simpa only [Tm.row, Bool.and_eq_true] using h
    simp only [noF, row_noF a h'.1, row_noF b h'.2]; rfl
  | .fn b, h => by cases h
theorem Lss.noF1 {a b : Tm} (h : Lss a b) : noF a = true := by
  induction h with
  | nm n => rfl
  | mk => rfl
  | ap _ _ h1 h2 => simp only [noF, h1, h2]; rfl
  | dr r _ h => exact h
theorem Lss.noF2 {a b : Tm} (h : Lss a b) : noF b = true := by
  induction h with
  | nm n => rfl
  | mk => rfl
  | ap _ _ h1 h2 => simp only [noF, h1, h2]; rfl
  | dr r _ h => simp only [noF, row_noF _ r, h]; rfl
theorem Lss.taken {a b : Tm} (h : Lss a b) : Lss (taken 2 a) (taken 1 b) := by
  induction h with
  | nm n =>
    unfold Nm.taken
    split
    · exact .mk _ _
    · exact .ap (.mk _ _) (.nm _)
  | mk => exact .ap (.mk _ _) (.mk _ _)
  | dr r q h =>
    rename_i a b z
    cases hb : has0 b with
    | false =>
      rw [taken2_no a q.noF1 (by rw [q.has]; exact hb), taken1_no (.ap z b) (by simp only [noF, row_noF z r, q.noF2]; rfl) (by simp only [has0, row_has0 z r, hb]; rfl)]
      exact .ap (.mk _ _) (.dr (row_near z r) q.near)
    | true =>
      have e : Nm.taken 1 (.ap z b) = .ap (.ap (.mk .S) (.ap (.mk .K) (Nm.near z))) (Nm.taken 1 b) := by
        have e1 : Nm.taken 1 z = .ap (.mk .K) (Nm.near z) := taken1_no z (row_noF z r) (row_has0 z r)
        have q : ¬ ((1 : Nat) ≠ 0 ∧ (has0 z || has0 b) = false) := fun x => by rw [hb, Bool.or_true] at x; cases x.2
        rw [Nm.taken, if_neg q, if_neg (by omega), if_neg (by omega), e1]
      rw [e]
      exact .dr (by simp only [Tm.row, row_near z r]; rfl) h
  | ap q1 q2 h1 h2 =>
    rename_i a b a' b'
    have s1 := q1.has
    have s2 := q2.has
    by_cases c0 : (has0 a || has0 b) = false
    · have c0' : (has0 a' || has0 b') = false := by rw [← s1, ← s2]; exact c0
      rw [taken2_no (.ap a b) (by simp only [noF, q1.noF1, q2.noF1]; rfl) c0, taken1_no (.ap a' b') (by simp only [noF, q1.noF2, q2.noF2]; rfl) c0']
      exact .ap (.mk _ _) (.ap q1.near q2.near)
    · have n1 : ¬ ((2 : Nat) ≠ 0 ∧ (has0 a || has0 b) = false) := fun x => c0 x.2
      have n2 : ¬ ((1 : Nat) ≠ 0 ∧ (has0 a' || has0 b') = false) := fun x => c0 (by rw [s1, s2]; exact x.2)
      have e : Nm.taken 1 (.ap a' b') = .ap (.ap (.mk .S) (Nm.taken 1 a')) (Nm.taken 1 b') := by
        rw [Nm.taken, if_neg n2, if_neg (by omega), if_neg (by omega)]
      rw [e, Nm.taken, if_neg n1]
      split
      · rename_i x
        rw [taken1_no a' q1.noF2 (by rw [← s1]; exact x.2)]
        exact .ap (.ap (.mk _ _) (.dr rfl q1.near)) h2
      · split
        · rename_i x
          rw [taken1_no b' q2.noF2 (by rw [← s2]; exact x.2)]
          exact .ap (.ap (.mk _ _) h1) (.dr rfl q2.near)
        · exact .ap (.ap (.mk _ _) h1) h2
theorem out_lss : ∀ t : Tm, Lss (outW 2 t) (outW 1 t)
  | .nm n => .nm n
  | .mk m => .mk m m
  | .ap a b => .ap (out_lss a) (out_lss b)
  | .fn b => (out_lss b).taken
theorem out_turns (t : Tm) : (outW 2 t).sz ≤ (outW 1 t).sz := (out_lss t).sz
/-! ### lists of numbers -/
theorem nms_d (ns : List Int) : ns.map PyData.int = (ns.map Tm.nm).map Tm.d := by
  rw [List.map_map]; rfl
theorem deps_nm : ∀ ns : List Int, deps (ns.map Tm.nm) = 0
  | [] => rfl
  | n :: r => by simp only [List.map_cons, deps, Tm.dep, deps_nm r]; rfl
theorem nm_inj {ns ms : List Int} : ns.map Tm.nm = ms.map Tm.nm ↔ ns = ms := by
  constructor
  · intro h
    have := congrArg (List.map fun t => match t with | Tm.nm n => n | _ => 0) h
    simpa [List.map_map, Function.comp_def] using this
  · intro h; rw [h]
theorem wNe_ints (k : Nat) (ns ms : List Int) : wNe k (.d (.list (ns.map .int))) (.d (.list (ms.map .int))) = some (.d (.bool (!decide (ns = ms)))) := by
  rw [nms_d, nms_d, wNe_tmsL (by rw [deps_nm]; omega)]
  simp only [nm_inj]
theorem wEq_ints (k : Nat) (ns ms : List Int) : wEq k (.d (.list (ns.map .int))) (.d (.list (ms.map .int))) = some (.d (.bool (decide (ns = ms)))) := by
  rw [nms_d, nms_d, wEq_tmsL (by rw [deps_nm]; omega)]
  simp only [nm_inj]
theorem its_ints : ∀ ns : List Int, its (ns.map .int) = some ns
  | [] => rfl
  | n :: r => by
    rw [List.map_cons, its, its_ints r]
theorem lay_ints (ns : List Int) : PyData.canLayAll0 (ns.map .int) = true := by rw [nms_d]; exact layAll_d _
theorem any_ints (m : Int) (ns : List Int) : ((ns.map PyData.int).any fun y => PyData.eqv y (.int m)) = decide (m ∈ ns) := by
  have := any_d (.nm m) (ns.map Tm.nm)
  rw [← nms_d] at this
  rw [show (PyData.int m) = (Tm.nm m).d from rfl, this]
  congr 1
  simp
theorem wIn_ints (k : Nat) (m : Int) (ns : List Int) (neg : Bool) : wInS k neg (.d (.int m)) (.d (.list (ns.map .int))) = some (.d (.bool (if neg then !decide (m ∈ ns) else decide (m ∈ ns)))) := by
  have h2 : min (PyData.depthAll (ns.map PyData.int)) (PyData.depth (.int m)) ≤ 190 + 16 * k := by
    simp only [PyData.depth]; omega
  have h3 : PyData.canLay0 (.int m) = true := rfl
  simp only [wInS, h3, lay_ints, h2, decide_true, Bool.and_true, if_true, any_ints]
end Nm
namespace Nm
open PySem L2
/-! ### the room of the plain way, at once -/
def plainR (L : Int) (cs : List Int) : Int := cs.foldl (fun f o => 3 * f - 1 - o) L
def fnN : Nat → Tm → Tm
  | 0, t => t
  | n + 1, t => .fn (fnN n t)
theorem fnN_fn : ∀ (n : Nat) (t : Tm), fnN n (.fn t) = .fn (fnN n t)
  | 0, t => rfl
  | n + 1, t => by rw [fnN, fnN_fn n t]; rfl
theorem names_fnN : ∀ (n : Nat) (t : Tm) (d : Int), names (fnN n t) d = names t (d + n)
  | 0, t, d => by rw [fnN, Int.natCast_zero, Int.add_zero]
  | n + 1, t, d => by
    rw [fnN, names, names_fnN n t (d + 1)]
    congr 1; omega
theorem cnt_shift (n : Int) (hn : 0 ≤ n) : ∀ t : Tm, noF t = true → (names t n).count 0 = (names t 0).count n
  | .nm m, _ => by
    unfold names
    by_cases h : n ≤ m
    · rw [if_pos h, if_pos (by omega), List.count_cons, List.count_cons, List.count_nil, List.count_nil]
      by_cases e : m = n
      · subst e; simp
      · have e1 : ¬ m - n = 0 := by omega
        have e2 : ¬ m - 0 = n := by omega
        simp only [beq_iff_eq, e1, e2, if_false]
    · rw [if_neg h]
      by_cases h0 : 0 ≤ m
      · have e2 : ¬ m - 0 = n := by omega
        rw [if_pos h0, List.count_cons, List.count_nil]
        simp only [beq_iff_eq, e2, if_false]; rfl
      · rw [if_neg h0]; rfl
  | .mk m, _ => rfl
  | .ap a b, h => by
    have h' : noF a = true ∧ noF b = true := by simpa only [noF, Bool.and_eq_true] using h
    simp only [names, List.count_append, cnt_shift n hn a h'.1, cnt_shift n hn b h'.2]
  | .fn b, h => by cases h
def cnts (L : List Int) (n : Nat) : List Int := (List.range n).map fun (i : Nat) => ((L.count (i : Int) : Nat) : Int)
theorem fnN_nn : ∀ (n : Nat) (t : Tm), t.nn = true → (fnN n t).nn = true
  | 0, t, h => h
  | n + 1, t, h => fnN_nn n t h
theorem plain_room_sz (t : Tm) (h : noF t = true) (hn : t.nn = true) : ∀ n : Nat, ((outW 0 (fnN n t)).sz : Int) = plainR t.sz (cnts (names t 0) n)
  | 0 => by rw [fnN, outW_noF 0 t h]; rfl
  | n + 1 => by
    have ih := plain_room_sz t h hn n
    have h1 := plain_sz (outW 0 (fnN n t)) (outW_free 0 _) (outW_nn 0 _ (fnN_nn n t hn))
    have h2 : cnt0 (outW 0 (fnN n t)) = (names t 0).count (n : Int) := by
      unfold cnt0
      rw [names_out 0 _ 0 (Int.le_refl 0), names_fnN, ← cnt_shift n (by omega) t h]
      congr 2; omega
    have e : plainR t.sz (cnts (names t 0) (n + 1)) = 3 * plainR t.sz (cnts (names t 0) n) - 1 - ((names t 0).count (n : Int) : Nat) := by
      unfold plainR cnts
      rw [List.range_succ, List.map_append, List.foldl_append]; rfl
    rw [e, ← ih, fnN, outW]
    omega
theorem cnts_sum (L : List Int) : ∀ n : Nat, (cnts L n).sum ≤ L.length := fun n => by
  have key : ∀ n : Nat, (cnts L n).sum = ((L.countP (fun x : Int => decide (0 ≤ x ∧ x < (n : Int))) : Nat) : Int) := fun n => by
    induction n with
    | zero =>
      have : (L.countP fun x => decide (0 ≤ x ∧ x < ((0 : Nat) : Int))) = 0 := List.countP_eq_zero.mpr fun x _ => by simp
      rw [this]; rfl
    | succ n ih =>
      have e : (L.countP fun x => decide (0 ≤ x ∧ x < ((n + 1 : Nat) : Int))) = (L.countP fun x => decide (0 ≤ x ∧ x < (n : Int))) + L.count (n : Int) := by
        clear ih
        induction L with
        | nil => rfl
        | cons x r ih2 =>
          rw [List.countP_cons, List.countP_cons, List.count_cons, ih2]
          by_cases h1 : 0 ≤ x ∧ x < (n : Int)
          · have h2 : 0 ≤ x ∧ x < ((n + 1 : Nat) : Int) := by omega
            have h3 : ¬ x = (n : Int) := by omega
            simp only [h1, h2, decide_true, beq_iff_eq, h3, if_true, if_false, and_self]; omega
          · by_cases h3 : x = (n : Int)
            · have h2 : 0 ≤ x ∧ x < ((n + 1 : Nat) : Int) := by omega
              rw [if_pos (decide_eq_true h2), if_neg (by rw [decide_eq_true_eq]; exact h1), if_pos (by simp [h3])]; omega
            · have h2 : ¬ (0 ≤ x ∧ x < ((n + 1 : Nat) : Int)) := by omega
              simp only [h1, h2, decide_false, beq_iff_eq, h3, Bool.false_eq_true, if_false]; omega
      have e2 : (cnts L (n + 1)).sum = (cnts L n).sum + (L.count (n : Int) : Nat) := by
        unfold cnts
        rw [List.range_succ, List.map_append, List.sum_append]
        simp
      rw [e2, ih, e]; omega
  rw [key n]
  have := List.countP_le_length (p := fun x : Int => decide (0 ≤ x ∧ x < (n : Int))) (l := L)
  omega
theorem cnts_mem {L : List Int} {n : Nat} {c : Int} (h : c ∈ cnts L n) : 0 ≤ c ∧ c ≤ L.length := by
  obtain ⟨i, _, rfl⟩ := List.mem_map.mp h
  have := List.count_le_length (a := (i : Int)) (l := L)
  omega
theorem drawn3_noF {s : Int} {d n : Nat} {t : Tm} (h : Drawn s d n t) (hd : 3 ≤ d) : noF t = true := by
  induction h with
  | fn _ h _ _ => omega
  | mk => rfl
  | nm => rfl
  | ap _ _ _ _ h1 h2 => simp only [noF, h1 hd, h2 hd]; rfl
theorem sum_le {m : Int} : ∀ (L : List Int), (∀ x ∈ L, x ≤ m) → L.sum ≤ L.length * m
  | [], _ => by simp
  | x :: r, h => by
    have h1 := h x List.mem_cons_self
    have h2 := sum_le r fun y hy => h y (List.mem_cons_of_mem _ hy)
    rw [List.sum_cons, List.length_cons]
    have e : ((r.length + 1 : Nat) : Int) * m = r.length * m + m := by
      rw [Int.natCast_add, Int.add_mul]; simp
    rw [e]; omega
end Nm
namespace Nm
open PySem L2
/-! ### lifted -/
theorem lift_zero : ∀ (t : Tm) (d : Int), lift 0 t d = t
  | .nm n, d => by unfold lift; split <;> simp
  | .mk m, d => rfl
  | .ap a b, d => by simp only [lift, lift_zero a d, lift_zero b d]
  | .fn b, d => by simp only [lift, lift_zero b (d + 1)]
theorem lift_two (b : Int) (hb : 0 ≤ b) : ∀ (t : Tm) (d : Int), lift b (lift b t d) d = lift (2 * b) t d
  | .nm n, d => by
    by_cases h : d ≤ n
    · have h2 : d ≤ n + b := by omega
      simp only [lift, h, if_true, h2]; congr 1; omega
    · simp only [lift, h, if_false]
  | .mk m, d => rfl
  | .ap a c, d => by simp only [lift, lift_two b hb a d, lift_two b hb c d]
  | .fn c, d => by simp only [lift, lift_two b hb c (d + 1)]
theorem names_lift (b : Int) (hb : 0 ≤ b) : ∀ (t : Tm) (d : Int), names (lift b t d) d = (names t d).map (· + b)
  | .nm n, d => by
    by_cases h : d ≤ n
    · have h2 : d ≤ n + b := by omega
      simp only [lift, names, h, h2, if_true, List.map_cons, List.map_nil]; congr 1; omega
    · simp only [lift, names, h, if_false, List.map_nil]
  | .mk m, d => rfl
  | .ap a c, d => by simp only [lift, names, names_lift b hb a d, names_lift b hb c d, List.map_append]
  | .fn c, d => by simp only [lift, names, names_lift b hb c (d + 1)]
theorem ins_map (b k : Int) : ∀ l : List Int, ins (k + b) (l.map (· + b)) = (ins k l).map (· + b)
  | [] => rfl
  | x :: r => by
    rw [List.map_cons]
    unfold ins
    by_cases h1 : k < x
    · rw [if_pos h1, if_pos (by omega)]; rfl
    · rw [if_neg h1, if_neg (by omega)]
      by_cases h2 : k = x
      · rw [if_pos h2, if_pos (by omega)]; rfl
      · rw [if_neg h2, if_neg (by omega), ins_map b k r]; rfl
theorem srt_map (b : Int) : ∀ l : List Int, srt (l.map (· + b)) = (srt l).map (· + b)
  | [] => rfl
  | x :: r => by
    rw [List.map_cons]
    show ins (x + b) (srt (r.map (· + b))) = (ins x (srt r)).map (· + b)
    rw [srt_map b r, ins_map]
/-! ### how great names are -/
def bd (B : Int) : Tm → Bool
  | .nm n => decide (n < B)
  | .mk _ => true
  | .ap a b => bd B a && bd B b
  | .fn b => bd B b
theorem bd_mono {B C : Int} (h : B ≤ C) : ∀ t : Tm, bd B t = true → bd C t = true
  | .nm n, q => by
    have q : n < B := of_decide_eq_true q
    exact decide_eq_true (by omega)
  | .mk _, _ => rfl
  | .ap a b, q => by
    have q' : bd B a = true ∧ bd B b = true := by simpa only [bd, Bool.and_eq_true] using q
    simp only [bd, bd_mono h a q'.1, bd_mono h b q'.2]; rfl
  | .fn b, q => bd_mono h b q
theorem bd_lift {B : Int} (b : Int) (hb : 0 ≤ b) : ∀ (t : Tm) (d : Int), bd B t = true → bd (B + b) (lift b t d) = true
  | .nm n, d, q => by
    have q : n < B := of_decide_eq_true q
    unfold lift
    split <;> exact decide_eq_true (by omega)
  | .mk _, _, _ => rfl
  | .ap a c, d, q => by
    have q' : bd B a = true ∧ bd B c = true := by simpa only [bd, Bool.and_eq_true] using q
    simp only [lift, bd, bd_lift b hb a d q'.1, bd_lift b hb c d q'.2]; rfl
  | .fn c, d, q => by simpa only [lift, bd] using bd_lift b hb c (d + 1) q
theorem bd_put {B : Int} (x : Tm) (hx : bd B x = true) (hB : 0 ≤ B) : ∀ (t : Tm) (d : Int), 0 ≤ d → bd B t = true → bd (B + d + t.dep) (put x t d) = true
  | .nm n, d, hd, q => by
    have q : n < B := of_decide_eq_true q
    unfold put
    split
    · exact decide_eq_true (by simp only [Tm.dep]; omega)
    · split
      · exact bd_mono (by simp only [Tm.dep]; omega) _ (bd_lift d hd x 0 hx)
      · exact decide_eq_true (by simp only [Tm.dep]; omega)
  | .mk _, _, _, _ => rfl
  | .ap a c, d, hd, q => by
    have q' : bd B a = true ∧ bd B c = true := by simpa only [bd, Bool.and_eq_true] using q
    have h1 := bd_mono (C := B + d + (Tm.ap a c).dep) (by simp only [Tm.dep]; omega) _ (bd_put x hx hB a d hd q'.1)
    have h2 := bd_mono (C := B + d + (Tm.ap a c).dep) (by simp only [Tm.dep]; omega) _ (bd_put x hx hB c d hd q'.2)
    simp only [put, bd, h1, h2]; rfl
  | .fn c, d, hd, q => by
    have h1 := bd_mono (C := B + d + (Tm.fn c).dep) (by simp only [Tm.dep]; omega) _ (bd_put x hx hB c (d + 1) (by omega) q)
    simpa only [put, bd] using h1
theorem drawn_bd {s : Int} {d n : Nat} {t : Tm} (h : Drawn s d n t) (hd : d ≤ 3) : bd 5 t = true := by
  induction h with
  | fn _ h _ ih => exact ih (by omega)
  | mk => rfl
  | nm n _ h1 h2 => exact decide_eq_true (by omega)
  | ap _ _ _ _ h1 h2 => simp only [bd, h1 hd, h2 hd]; rfl
/-! ### a term as a text -/
theorem shown_mk (m : Mkr) : (PyData.shown (.str m.s)).length = 3 := by cases m <;> decide +kernel
theorem shown_fn : (PyData.shown (.str "fn")).length = 4 := by decide +kernel
theorem shown_len : ∀ t : Tm, t.nn = true → bd (10 ^ 60) t = true → (t.d.shown).length + 6 ≤ 70 * t.sz
  | .nm n, h, b => by
    have h : 0 ≤ n := of_decide_eq_true h
    have b : n < 10 ^ 60 := of_decide_eq_true b
    have := PyProof.Rows.toString_length_le h (k := 60) (by decide) b
    simp only [Tm.d, PyData.shown, Tm.sz]
    omega
  | .mk m, _, _ => by
    have := shown_mk m
    simp only [Tm.d, Tm.sz]
    omega
  | .ap x y, h, b => by
    have h' : x.nn = true ∧ y.nn = true := by simpa only [Tm.nn, Bool.and_eq_true] using h
    have b' : bd (10 ^ 60) x = true ∧ bd (10 ^ 60) y = true := by simpa only [bd, Bool.and_eq_true] using b
    have h1 := shown_len x h'.1 b'.1
    have h2 := shown_len y h'.2 b'.2
    have h3 := fmt_text [x.d.shown, y.d.shown]
    simp only [piled_cons, piled_nil] at h3
    have e : PyData.shown (.tuple [x.d, y.d]) = tupleText [x.d.shown, y.d.shown] := by simp only [PyData.shown, PyData.shownAll]
    simp only [Tm.d, Tm.sz, e]
    omega
  | .fn y, h, b => by
    have h2 := shown_len y h b
    have h3 := fmt_text [PyData.shown (.str "fn"), y.d.shown]
    have h4 := shown_fn
    simp only [piled_cons, piled_nil] at h3
    have e : PyData.shown (.tuple [.str "fn", y.d]) = tupleText [PyData.shown (.str "fn"), y.d.shown] := by simp only [PyData.shown, PyData.shownAll]
    simp only [Tm.d, Tm.sz, e]
    omega
theorem log_60 {n : Int} (h0 : 0 ≤ n) (h : n < 10 ^ 60) : n.natAbs.log2 < 1920 := by
  by_cases z : n.natAbs = 0
  · rw [z]; decide
  · rw [Nat.log2_lt z]
    exact Nat.lt_of_lt_of_le (show n.natAbs < 2 ^ 200 by omega) (Nat.pow_le_pow_right (by decide) (by decide))
theorem showable_d : ∀ t : Tm, t.nn = true → bd (10 ^ 60) t = true → t.d.showable = true
  | .nm n, h, b => by
    simp only [Tm.d, PyData.showable]
    exact decide_eq_true (log_60 (of_decide_eq_true h) (of_decide_eq_true b))
  | .mk m, _, _ => by simp only [Tm.d, PyData.showable]
  | .ap x y, h, b => by
    have h' : x.nn = true ∧ y.nn = true := by simpa only [Tm.nn, Bool.and_eq_true] using h
    have b' : bd (10 ^ 60) x = true ∧ bd (10 ^ 60) y = true := by simpa only [bd, Bool.and_eq_true] using b
    simp only [Tm.d, PyData.showable, PyData.showableAll, showable_d x h'.1 b'.1, showable_d y h'.2 b'.2]; rfl
  | .fn y, h, b => by
    simp only [Tm.d, PyData.showable, PyData.showableAll, showable_d y h b]; rfl
theorem hasDict_d : ∀ t : Tm, t.d.hasDict = false
  | .nm n => by simp only [Tm.d, PyData.hasDict]
  | .mk m => by simp only [Tm.d, PyData.hasDict]
  | .ap x y => by simp only [Tm.d, PyData.hasDict, PyData.hasDictAll, hasDict_d x, hasDict_d y]; rfl
  | .fn y => by simp only [Tm.d, PyData.hasDict, PyData.hasDictAll, hasDict_d y]; rfl
theorem str_d (k : Nat) (t : Tm) (hn : t.nn = true) (hb : bd (10 ^ 60) t = true) (hs : t.sz ≤ 1400) (hd : t.dep ≤ 180 + 16 * k) : ∃ x : Str, wStr k (.d t.d) = some (.d (.str x)) := by
  have h1 := showable_d t hn hb
  have h2 := hasDict_d t
  have h3 := shown_len t hn hb
  have h4 := dep_d t
  cases t with
  | nm n =>
    refine ⟨toString n, ?_⟩
    simp only [Tm.d, wStr]
    rw [if_pos (log_60 (of_decide_eq_true hn) (of_decide_eq_true hb))]
  | mk m => exact ⟨m.s, rfl⟩
  | ap x y =>
    refine ⟨(Tm.ap x y).d.shown, ?_⟩
    simp only [Tm.d] at h1 h2 h3 h4 ⊢
    simp only [wStr, shw]
    rw [if_pos ⟨h1, h2, by omega, by omega⟩]
  | fn y =>
    refine ⟨(Tm.fn y).d.shown, ?_⟩
    simp only [Tm.d] at h1 h2 h3 h4 ⊢
    simp only [wStr, shw]
    rw [if_pos ⟨h1, h2, by omega, by omega⟩]
/-! ### a thing put in -/
theorem put_lv (x : Tm) : ∀ (t : Tm) (d : Int), (put x t d).lv ≤ t.lv * x.lv
  | .nm n, d => by
    have := x.lv_pos
    have hl : ∀ (y : Tm) (b c : Int), (lift b y c).lv = y.lv := fun y => by
      induction y with
      | nm n => intro b c; unfold lift; split <;> rfl
      | mk m => intro b c; rfl
      | ap p q h1 h2 => intro b c; simp only [lift, Tm.lv, h1, h2]
      | fn p h => intro b c; simp only [lift, Tm.lv, h]
    unfold put
    split
    · simp only [Tm.lv]; omega
    · split
      · rw [hl]; simp only [Tm.lv]; omega
      · simp only [Tm.lv]; omega
  | .mk m, d => by have := x.lv_pos; simp only [put, Tm.lv]; omega
  | .ap a b, d => by have h1 := put_lv x a d; have h2 := put_lv x b d; simp only [put, Tm.lv, Nat.add_mul]; omega
  | .fn b, d => by have h1 := put_lv x b (d + 1); simpa only [put, Tm.lv] using h1
theorem names_lift2 (b : Int) (hb : 0 ≤ b) : ∀ (t : Tm) (c : Int), names (lift b t c) (c + b) = names t c
  | .nm n, c => by
    by_cases h : c ≤ n
    · have h2 : c + b ≤ n + b := by omega
      simp only [lift, names, h, h2, if_true]; congr 1; omega
    · have h2 : ¬ c + b ≤ n := by omega
      simp only [lift, names, h, h2, if_false]
  | .mk m, c => rfl
  | .ap x y, c => by simp only [lift, names, names_lift2 b hb x c, names_lift2 b hb y c]
  | .fn x, c => by
    simp only [lift, names]
    rw [show c + b + 1 = c + 1 + b by omega]
    exact names_lift2 b hb x (c + 1)
theorem names_put (x : Tm) (k : Int) : ∀ (t : Tm) (d : Int), 0 ≤ d → (k ∈ names (put x t d) d ↔ (∃ n ∈ names t d, 0 < n ∧ k = n - 1) ∨ ((0 : Int) ∈ names t d ∧ k ∈ names x 0))
  | .nm n, d, hd => by
    by_cases h1 : n < d
    · have h2 : ¬ d ≤ n := by omega
      simp [put, names, h1, h2]
    · by_cases h2 : n = d
      · subst h2
        have := names_lift2 n hd x 0
        rw [Int.zero_add] at this
        simp [put, names, this]
      · have h3 : d ≤ n - 1 := by omega
        have h4 : d ≤ n := by omega
        have h5 : ¬ (0 : Int) = n - d := by omega
        have h6 : 0 < n - d := by omega
        simp only [put, names, h1, h2, h3, h4, if_true, if_false, List.mem_singleton]
        constructor
        · intro e; exact .inl ⟨n - d, rfl, h6, by omega⟩
        · rintro (⟨m, rfl, _, e⟩ | ⟨e, _⟩)
          · omega
          · exact absurd e h5
  | .mk m, d, hd => by simp [put, names]
  | .ap a b, d, hd => by
    have h1 := names_put x k a d hd
    have h2 := names_put x k b d hd
    simp only [put, names, List.mem_append, h1, h2]
    constructor
    · rintro ((⟨n, q1, q2⟩ | ⟨q1, q2⟩) | (⟨n, q1, q2⟩ | ⟨q1, q2⟩))
      · exact .inl ⟨n, .inl q1, q2⟩
      · exact .inr ⟨.inl q1, q2⟩
      · exact .inl ⟨n, .inr q1, q2⟩
      · exact .inr ⟨.inr q1, q2⟩
    · rintro (⟨n, q1 | q1, q2⟩ | ⟨q1 | q1, q2⟩)
      · exact .inl (.inl ⟨n, q1, q2⟩)
      · exact .inr (.inl ⟨n, q1, q2⟩)
      · exact .inl (.inr ⟨q1, q2⟩)
      · exact .inr (.inr ⟨q1, q2⟩)
  | .fn b, d, hd => by simpa only [put, names] using names_put x k b (d + 1) (by omega)
theorem put_lift1 (y : Tm) : ∀ (x : Tm) (c : Int), put y (lift 1 x c) c = x
  | .nm n, c => by
    by_cases h : c ≤ n
    · have h2 : ¬ n + 1 < c := by omega
      have h3 : ¬ n + 1 = c := by omega
      simp only [lift, put, h, h2, h3, if_true, if_false]; congr 1; omega
    · have h2 : n < c := by omega
      simp only [lift, put, h, h2, if_true, if_false]
  | .mk m, c => rfl
  | .ap a b, c => by simp only [lift, put, put_lift1 y a c, put_lift1 y b c]
  | .fn b, c => by simp only [lift, put, put_lift1 y b (c + 1)]
/-- names but the first, one nearer -/
def near1 (L : List Int) : List Int := (L.filter fun n => decide (0 < n)).map (· - 1)
theorem near1_len (L : List Int) : (near1 L).length ≤ L.length := by
  unfold near1
  rw [List.length_map]
  exact List.length_filter_le _ _
theorem put_names (x t : Tm) : srt (names (put x t 0) 0) = srt (near1 (names t 0) ++ if (0 : Int) ∈ names t 0 then names x 0 else []) := srt_ext fun k => by
  rw [names_put x k t 0 (Int.le_refl 0), List.mem_append]
  unfold near1
  rw [List.mem_map]
  constructor
  · rintro (⟨n, h1, h2, rfl⟩ | ⟨h1, h2⟩)
    · exact .inl ⟨n, List.mem_filter.mpr ⟨h1, decide_eq_true h2⟩, rfl⟩
    · exact .inr (by rw [if_pos h1]; exact h2)
  · rintro (⟨n, h1, rfl⟩ | h)
    · obtain ⟨q1, q2⟩ := List.mem_filter.mp h1
      exact .inl ⟨n, q1, of_decide_eq_true q2, rfl⟩
    · by_cases z : (0 : Int) ∈ names t 0
      · rw [if_pos z] at h; exact .inr ⟨z, h⟩
      · rw [if_neg z] at h; cases h
/-! ### makers made back -/
def bk : Mkr → Tm
  | .B => .fn (.fn (.fn (.ap (.nm 2) (.ap (.nm 1) (.nm 0)))))
  | .C => .fn (.fn (.fn (.ap (.ap (.nm 2) (.nm 0)) (.nm 1))))
  | .I => .fn (.nm 0)
  | .K => .fn (.fn (.nm 1))
  | .S => .fn (.fn (.fn (.ap (.ap (.nm 2) (.nm 0)) (.ap (.nm 1) (.nm 0)))))
def backT : Tm → Tm
  | .nm n => .nm n
  | .mk m => bk m
  | .ap a b => .ap (backT a) (backT b)
  | .fn b => .fn (backT b)
def noM : Tm → Bool
  | .nm _ => true
  | .mk _ => false
  | .ap a b => noM a && noM b
  | .fn b => noM b
theorem backT_noM : ∀ t : Tm, noM t = true → backT t = t
  | .nm n, _ => rfl
  | .mk m, h => by cases h
  | .ap a b, h => by
    have h' : noM a = true ∧ noM b = true := by simpa only [noM, Bool.and_eq_true] using h
    simp only [backT, backT_noM a h'.1, backT_noM b h'.2]
  | .fn b, h => by simp only [backT, backT_noM b h]
theorem noM_back : ∀ t : Tm, noM (backT t) = true
  | .nm n => rfl
  | .mk m => by cases m <;> rfl
  | .ap a b => by simp only [backT, noM, noM_back a, noM_back b]; rfl
  | .fn b => noM_back b
theorem back_nn : ∀ t : Tm, t.nn = true → (backT t).nn = true
  | .nm n, h => h
  | .mk m, _ => by cases m <;> rfl
  | .ap a b, h => by
    have h' : a.nn = true ∧ b.nn = true := by simpa only [Tm.nn, Bool.and_eq_true] using h
    simp only [backT, Tm.nn, back_nn a h'.1, back_nn b h'.2]; rfl
  | .fn b, h => back_nn b h
theorem back_bd {B : Int} (hB : 5 ≤ B) : ∀ t : Tm, bd B t = true → bd B (backT t) = true
  | .nm n, h => h
  | .mk m, _ => by
    have h : bd 5 (bk m) = true := by cases m <;> rfl
    exact bd_mono hB _ h
  | .ap a b, h => by
    have h' : bd B a = true ∧ bd B b = true := by simpa only [bd, Bool.and_eq_true] using h
    simp only [backT, bd, back_bd hB a h'.1, back_bd hB b h'.2]; rfl
  | .fn b, h => back_bd hB b h
theorem back_names : ∀ (t : Tm) (d : Int), 0 ≤ d → names (backT t) d = names t d
  | .nm n, d, _ => rfl
  | .mk m, d, h => by
    have g0 : ¬ d + 1 ≤ 0 := by omega
    have g1 : ¬ d + 1 + 1 ≤ 1 := by omega
    have g2 : ¬ d + 1 + 1 + 1 ≤ 2 := by omega
    have g3 : ¬ d + 1 + 1 + 1 ≤ 1 := by omega
    have g4 : ¬ d + 1 + 1 + 1 ≤ 0 := by omega
    cases m <;> simp [backT, bk, names, g0, g1, g2, g3, g4]
  | .ap a b, d, h => by simp only [backT, names, back_names a d h, back_names b d h]
  | .fn b, d, h => by simp only [backT, names, back_names b (d + 1) (by omega)]
theorem back_sz : ∀ t : Tm, (backT t).sz ≤ 6 * t.lv + t.sz
  | .nm n => by simp only [backT, Tm.sz, Tm.lv]; omega
  | .mk m => by cases m <;> simp only [backT, bk, Tm.sz, Tm.lv] <;> omega
  | .ap a b => by
    have h1 := back_sz a
    have h2 := back_sz b
    simp only [backT, Tm.sz, Tm.lv]; omega
  | .fn b => by
    have h1 := back_sz b
    simp only [backT, Tm.sz, Tm.lv]; omega
theorem back_dep : ∀ t : Tm, (backT t).dep ≤ t.dep + 5
  | .nm n => by simp only [backT, Tm.dep]; omega
  | .mk m => by cases m <;> simp only [backT, bk, Tm.dep] <;> omega
  | .ap a b => by
    have h1 := back_dep a
    have h2 := back_dep b
    simp only [backT, Tm.dep]; omega
  | .fn b => by
    have h1 := back_dep b
    simp only [backT, Tm.dep]; omega
theorem drawn0_noM {d n : Nat} {t : Tm} (h : Drawn 0 d n t) : noM t = true := by
  induction h with
  | fn _ _ _ ih => exact ih
  | mk m h => exact absurd rfl h
  | nm => rfl
  | ap _ _ _ _ h1 h2 => simp only [noM, h1, h2]; rfl
end Nm
namespace Nm
open PySem L2
/-! ### things put in, one behind the other -/
theorem lift_add (c d : Int) (hc : 0 ≤ c) (hd : 0 ≤ d) : ∀ (x : Tm) (b e : Int), b ≤ e → e ≤ b + c → lift d (lift c x b) e = lift (c + d) x b
  | .nm n, b, e, h1, h2 => by
    by_cases h : b ≤ n
    · have h3 : e ≤ n + c := by omega
      simp only [lift, h, h3, if_true]; congr 1; omega
    · have h3 : ¬ e ≤ n := by omega
      simp only [lift, h, h3, if_false]
  | .mk m, b, e, _, _ => rfl
  | .ap x y, b, e, h1, h2 => by simp only [lift, lift_add c d hc hd x b e h1 h2, lift_add c d hc hd y b e h1 h2]
  | .fn x, b, e, h1, h2 => by simp only [lift, lift_add c d hc hd x (b + 1) (e + 1) (by omega) (by omega)]
theorem put_off (z : Tm) (m : Int) (hm : 0 ≤ m) : ∀ (x : Tm) (e d : Int), e ≤ d → d ≤ e + m → put z (lift (m + 1) x e) d = lift m x e
  | .nm n, e, d, h1, h2 => by
    by_cases h : e ≤ n
    · have g1 : ¬ n + (m + 1) < d := by omega
      have g2 : ¬ n + (m + 1) = d := by omega
      simp only [lift, put, h, g1, g2, if_true, if_false]; congr 1; omega
    · have g1 : n < d := by omega
      simp only [lift, put, h, g1, if_true, if_false]
  | .mk m, e, d, _, _ => rfl
  | .ap x y, e, d, h1, h2 => by simp only [lift, put, put_off z m hm x e d h1 h2, put_off z m hm y e d h1 h2]
  | .fn x, e, d, h1, h2 => by simp only [lift, put, put_off z m hm x (e + 1) (d + 1) (by omega) (by omega)]
theorem put_lift (x : Tm) (d : Int) (hd : 0 ≤ d) : ∀ (y : Tm) (c e : Int), 0 ≤ e → e ≤ c → put x (lift d y e) (c + d) = lift d (put x y c) e
  | .nm n, c, e, h0, h1 => by
    by_cases h : e ≤ n
    · by_cases g1 : n < c
      · have g2 : n + d < c + d := by omega
        simp only [lift, put, h, g1, g2, if_true]
      · by_cases g2 : n = c
        · subst g2
          have g3 : ¬ n + d < n + d := by omega
          have g4 : ¬ n < n := by omega
          simp only [lift, put, h, g3, g4, if_true, if_false]
          exact (lift_add n d (by omega) hd x 0 e (by omega) (by omega)).symm
        · have g3 : ¬ n + d < c + d := by omega
          have g4 : ¬ n + d = c + d := by omega
          have g5 : e ≤ n - 1 := by omega
          simp only [lift, put, h, g1, g2, g3, g4, g5, if_true, if_false]; congr 1; omega
    · have g1 : n < c := by omega
      have g2 : n < c + d := by omega
      simp only [lift, put, h, g1, g2, if_true, if_false]
  | .mk m, c, e, _, _ => rfl
  | .ap p q, c, e, h0, h1 => by simp only [lift, put, put_lift x d hd p c e h0 h1, put_lift x d hd q c e h0 h1]
  | .fn p, c, e, h0, h1 => by
    simp only [lift, put]
    rw [show c + d + 1 = c + 1 + d by omega, put_lift x d hd p (c + 1) (e + 1) (by omega) (by omega)]
theorem put_put (x y : Tm) (c : Int) (hc : 0 ≤ c) : ∀ (t : Tm) (d : Int), 0 ≤ d → put x (put y t d) (c + d) = put (put x y c) (put x t (c + d + 1)) d
  | .nm n, d, hd => by
    by_cases g1 : n < d
    · have g2 : n < c + d := by omega
      have g3 : n < c + d + 1 := by omega
      simp only [put, g1, g2, g3, if_true]
    · by_cases g2 : n = d
      · subst g2
        have g3 : n < c + n + 1 := by omega
        have g4 : ¬ n < n := by omega
        simp only [put, g3, g4, if_true, if_false]
        exact put_lift x n hd y c 0 (Int.le_refl 0) hc
      · by_cases g3 : n < c + d + 1
        · have g4 : n - 1 < c + d := by omega
          simp only [put, g1, g2, g3, g4, if_true, if_false]
        · by_cases g4 : n = c + d + 1
          · have g5 : ¬ n - 1 < c + d := by omega
            have g6 : n - 1 = c + d := by omega
            simp only [put, g1, g2, g3, g5, if_false]
            rw [if_pos g6, if_pos g4, put_off _ (c + d) (by omega) x 0 d hd (by omega)]
          · have g5 : ¬ n - 1 < c + d := by omega
            have g6 : ¬ n - 1 = c + d := by omega
            have g7 : ¬ n - 1 < d := by omega
            have g8 : ¬ n - 1 = d := by omega
            simp only [put, g1, g2, g3, g4, g5, g6, g7, g8, if_false]
  | .mk m, d, _ => rfl
  | .ap p q, d, hd => by simp only [put, put_put x y c hc p d hd, put_put x y c hc q d hd]
  | .fn p, d, hd => by
    simp only [put]
    rw [show c + d + 1 = c + (d + 1) by omega, put_put x y c hc p (d + 1) (by omega)]
/-! ### steps side by side -/
inductive Par : Tm → Tm → Prop
  | nm (n : Int) : Par (.nm n) (.nm n)
  | mk (m : Mkr) : Par (.mk m) (.mk m)
  | ap {a b a' b' : Tm} : Par a a' → Par b b' → Par (.ap a b) (.ap a' b')
  | fn {b b' : Tm} : Par b b' → Par (.fn b) (.fn b')
  | bt {b b' x x' : Tm} : Par b b' → Par x x' → Par (.ap (.fn b) x) (put x' b' 0)
theorem Par.refl : ∀ t : Tm, Par t t
  | .nm n => .nm n
  | .mk m => .mk m
  | .ap a b => .ap (Par.refl a) (Par.refl b)
  | .fn b => .fn (Par.refl b)
theorem Par.lift {t u : Tm} (h : Par t u) (a : Int) (ha : 0 ≤ a) : ∀ c : Int, 0 ≤ c → Par (lift a t c) (lift a u c) := by
  induction h with
  | nm n => intro c _; exact Par.refl _
  | mk m => intro c _; exact Par.refl _
  | ap _ _ h1 h2 => intro c hc; exact .ap (h1 c hc) (h2 c hc)
  | fn _ h => intro c hc; exact .fn (h (c + 1) (by omega))
  | bt _ _ h1 h2 =>
    rename_i b b' x x' p1 p2
    intro c hc
    have e := lift_put a ha x' b' 0 c (Int.le_refl 0) hc
    rw [Int.add_zero] at e
    rw [e]
    exact .bt (h1 (c + 1) (by omega)) (h2 c hc)
theorem Par.put {b b' : Tm} (h : Par b b') {x x' : Tm} (hx : Par x x') : ∀ d : Int, 0 ≤ d → Par (put x b d) (put x' b' d) := by
  induction h with
  | nm n =>
    intro d hd
    unfold Nm.put
    split
    · exact Par.refl _
    · split
      · exact hx.lift d hd 0 (Int.le_refl 0)
      · exact Par.refl _
  | mk m => intro d _; exact Par.refl _
  | ap _ _ h1 h2 => intro d hd; exact .ap (h1 d hd) (h2 d hd)
  | fn _ h => intro d hd; exact .fn (h (d + 1) (by omega))
  | bt _ _ h1 h2 =>
    rename_i b b' y y' p1 p2
    intro d hd
    have e := put_put x' y' d hd b' 0 (Int.le_refl 0)
    rw [Int.add_zero] at e
    rw [e]
    exact .bt (h1 (d + 1) (by omega)) (h2 d hd)
/-- all that can be done at once -/
def cd : Tm → Tm
  | .nm n => .nm n
  | .mk m => .mk m
  | .fn b => .fn (cd b)
  | .ap (.fn b) x => Nm.put (cd x) (cd b) 0
  | .ap (.nm n) x => .ap (.nm n) (cd x)
  | .ap (.mk m) x => .ap (.mk m) (cd x)
  | .ap (.ap p q) x => .ap (cd (.ap p q)) (cd x)
theorem Par.cd {t u : Tm} (h : Par t u) : Par u (cd t) := by
  induction h with
  | nm n => exact Par.refl _
  | mk m => exact Par.refl _
  | fn _ h => exact .fn h
  | bt _ _ h1 h2 => exact h1.put h2 0 (Int.le_refl 0)
  | ap q1 q2 h1 h2 =>
    rename_i a b a' b'
    cases a with
    | nm n => exact .ap h1 h2
    | mk m => exact .ap h1 h2
    | ap p q => exact .ap h1 h2
    | fn c =>
      cases q1 with
      | fn q =>
        cases h1 with
        | fn h => exact .bt h h2
/-- by any number of steps -/
inductive Red : Tm → Tm → Prop
  | nil (t : Tm) : Red t t
  | cons {t u v : Tm} : Par t u → Red u v → Red t v
theorem Red.trans {t u v : Tm} (h : Red t u) (g : Red u v) : Red t v := by
  induction h with
  | nil => exact g
  | cons p _ ih => exact .cons p (ih g)
theorem Red.one {t u : Tm} (h : Par t u) : Red t u := .cons h (.nil u)
theorem strip {t u v : Tm} (h : Par t u) (g : Red t v) : ∃ w, Red u w ∧ Par v w := by
  induction g generalizing u with
  | nil t => exact ⟨u, .nil u, h⟩
  | cons p _ ih =>
    rename_i t t1 v
    obtain ⟨w, h1, h2⟩ := ih p.cd
    exact ⟨w, .cons h.cd h1, h2⟩
theorem meet {t u v : Tm} (h : Red t u) (g : Red t v) : ∃ w, Red u w ∧ Red v w := by
  induction h generalizing v with
  | nil t => exact ⟨v, g, .nil v⟩
  | cons p _ ih =>
    obtain ⟨w, h1, h2⟩ := strip p g
    obtain ⟨z, h3, h4⟩ := ih h1
    exact ⟨z, h3, .cons h2 h4⟩
theorem noM_mstep : ∀ (l x : Tm), noM l = true → mstep x l = none
  | .nm n, x, _ => rfl
  | .mk m, x, h => by cases h
  | .fn b, x, _ => rfl
  | .ap (.nm n) b, x, _ => rfl
  | .ap (.mk m) b, x, h => by cases h
  | .ap (.fn c) b, x, _ => rfl
  | .ap (.ap (.nm n) c) b, x, _ => rfl
  | .ap (.ap (.mk m) c) b, x, h => by cases h
  | .ap (.ap (.fn d) c) b, x, _ => rfl
  | .ap (.ap (.ap d e) c) b, x, _ => rfl
theorem noM_lift (a : Int) : ∀ (t : Tm) (c : Int), noM t = true → noM (lift a t c) = true
  | .nm n, c, _ => by unfold lift; split <;> rfl
  | .mk m, c, h => by cases h
  | .ap p q, c, h => by
    have h' : noM p = true ∧ noM q = true := by simpa only [noM, Bool.and_eq_true] using h
    simp only [lift, noM, noM_lift a p c h'.1, noM_lift a q c h'.2]; rfl
  | .fn b, c, h => by simpa only [lift, noM] using noM_lift a b (c + 1) h
theorem noM_put (x : Tm) (hx : noM x = true) : ∀ (t : Tm) (d : Int), noM t = true → noM (put x t d) = true
  | .nm n, d, _ => by
    unfold put
    split
    · rfl
    · split
      · exact noM_lift _ _ _ hx
      · rfl
  | .mk m, d, h => by cases h
  | .ap p q, d, h => by
    have h' : noM p = true ∧ noM q = true := by simpa only [noM, Bool.and_eq_true] using h
    simp only [put, noM, noM_put x hx p d h'.1, noM_put x hx q d h'.2]; rfl
  | .fn b, d, h => by simpa only [put, noM] using noM_put x hx b (d + 1) h
/-- a step of a term without makers is one of these -/
theorem stp_par : ∀ (t u : Tm), noM t = true → stp1 t = some u → Par t u ∧ noM u = true
  | .nm n, u, _, e => by cases e
  | .mk m, u, _, e => by cases e
  | .fn b, u, h, e => by
    rw [stp1] at e
    cases q : stp1 b with
    | none => rw [q] at e; cases e
    | some c =>
      rw [q] at e
      cases e
      obtain ⟨h1, h2⟩ := stp_par b c h q
      exact ⟨.fn h1, h2⟩
  | .ap l r, u, h, e => by
    have h' : noM l = true ∧ noM r = true := by simpa only [noM, Bool.and_eq_true] using h
    rw [stp1] at e
    cases q : head l r with
    | some v =>
      rw [q] at e
      cases e
      cases l with
      | fn b =>
        cases q
        exact ⟨.bt (Par.refl b) (Par.refl r), noM_put r h'.2 b 0 h'.1⟩
      | nm n => cases q
      | mk m => cases h'.1
      | ap p s =>
        have := noM_mstep (.ap p s) r h'.1
        rw [show head (.ap p s) r = mstep r (.ap p s) from rfl, this] at q
        cases q
    | none =>
      rw [q] at e
      simp only [] at e
      cases q1 : stp1 l with
      | some l' =>
        rw [q1] at e
        cases e
        obtain ⟨h1, h2⟩ := stp_par l l' h'.1 q1
        exact ⟨.ap h1 (Par.refl r), by simp only [noM, h2, h'.2]; rfl⟩
      | none =>
        rw [q1] at e
        simp only [] at e
        cases q2 : stp1 r with
        | some r' =>
          rw [q2] at e
          cases e
          obtain ⟨h1, h2⟩ := stp_par r r' h'.2 q2
          exact ⟨.ap (Par.refl l) h1, by simp only [noM, h2, h'.1]; rfl⟩
        | none => rw [q2] at e; cases e
/-- what has no step stays -/
theorem par_nf {t u : Tm} (h : Par t u) (e : stp1 t = none) : u = t := by
  induction h with
  | nm n => rfl
  | mk m => rfl
  | fn _ ih =>
    rw [stp1] at e
    rename_i b b' _
    cases q : stp1 b with
    | none => rw [ih q]
    | some c => rw [q] at e; cases e
  | bt _ _ _ _ => rw [stp1] at e; simp only [head] at e; cases e
  | ap _ _ h1 h2 =>
    rename_i a b a' b' _ _
    rw [stp1] at e
    cases q : head a b with
    | some v => rw [q] at e; cases e
    | none =>
      rw [q] at e
      simp only [] at e
      cases q1 : stp1 a with
      | some l' => rw [q1] at e; cases e
      | none =>
        rw [q1] at e
        simp only [] at e
        cases q2 : stp1 b with
        | some r' => rw [q2] at e; cases e
        | none => rw [h1 q1, h2 q2]
theorem red_nf {t u : Tm} (h : Red t u) (e : stp1 t = none) : u = t := by
  induction h with
  | nil => rfl
  | cons p _ ih =>
    have := par_nf p e
    subst this
    exact ih e
theorem red_end : ∀ (n : Nat) (t : Tm), noM t = true → Red t (endOf n t).1
  | 0, t, _ => .nil t
  | n + 1, t, h => by
    unfold endOf
    split
    · cases q : stp1 t with
      | none => exact .nil t
      | some u =>
        obtain ⟨h1, h2⟩ := stp_par t u h q
        exact .cons h1 (red_end n u h2)
    · exact .nil t
/-- where both settle they come to the same -/
theorem same_end {t u : Tm} {m n : Nat} (ht : noM t = true) (hu : noM u = true) (h : Red u t) (e1 : can (endOf m t).1 = false) (e2 : can (endOf n u).1 = false) : (endOf m t).1 = (endOf n u).1 := by
  have f : ∀ {x : Tm}, can x = false → stp1 x = none := fun {x} h => by
    unfold can at h
    cases q : stp1 x with
    | none => rfl
    | some y => rw [q] at h; cases h
  obtain ⟨w, h1, h2⟩ := meet (h.trans (red_end m t ht)) (red_end n u hu)
  rw [← red_nf h1 (f e1), red_nf h2 (f e2)]
/-! ### a row made back -/
theorem Red.ap {a a' b b' : Tm} (h : Red a a') (g : Red b b') : Red (.ap a b) (.ap a' b') := by
  have h1 : Red (.ap a b) (.ap a' b) := by
    induction h with
    | nil => exact .nil _
    | cons p _ ih => exact .cons (.ap p (Par.refl b)) ih
  refine h1.trans ?_
  clear h1
  induction g with
  | nil => exact .nil _
  | cons p _ ih => exact .cons (.ap (Par.refl a') p) ih
theorem Red.fn {a a' : Tm} (h : Red a a') : Red (.fn a) (.fn a') := by
  induction h with
  | nil => exact .nil _
  | cons p _ ih => exact .cons (.fn p) ih
theorem Red.lift {a a' : Tm} (h : Red a a') (n : Int) (hn : 0 ≤ n) : Red (lift n a 0) (lift n a' 0) := by
  induction h with
  | nil => exact .nil _
  | cons p _ ih => exact .cons (p.lift n hn 0 (Int.le_refl 0)) ih
theorem put_nm0 : ∀ (a : Tm) (d : Int), 0 ≤ d → put (.nm 0) (lift 1 a (d + 1)) d = a
  | .nm n, d, hd => by
    by_cases h : d + 1 ≤ n
    · have g1 : ¬ n + 1 < d := by omega
      have g2 : ¬ n + 1 = d := by omega
      simp only [lift, put, h, g1, g2, if_true, if_false]; congr 1; omega
    · by_cases g1 : n < d
      · simp only [lift, put, h, g1, if_true, if_false]
      · have g2 : n = d := by omega
        subst g2
        simp only [lift, put, h, g1, if_true, if_false, Int.le_refl]; congr 1; omega
  | .mk m, d, _ => rfl
  | .ap p q, d, hd => by simp only [lift, put, put_nm0 p d hd, put_nm0 q d hd]
  | .fn p, d, hd => by simp only [lift, put, put_nm0 p (d + 1) (by omega)]
/-- (fn a lifted) put to its name -/
theorem red_eta (a : Tm) : Red (.ap (lift 1 (.fn a) 0) (.nm 0)) a := by
  have e : put (.nm 0) (lift 1 a (0 + 1)) 0 = a := put_nm0 a 0 (Int.le_refl 0)
  have h : Par (.ap (.fn (lift 1 a (0 + 1))) (.nm 0)) (put (.nm 0) (lift 1 a (0 + 1)) 0) := .bt (Par.refl _) (Par.refl _)
  rw [e] at h
  exact .one h
theorem bt1 (b x : Tm) : Red (.ap (.fn b) x) (put x b 0) := .one (.bt (Par.refl b) (Par.refl x))
theorem bk_K (x : Tm) : Red (.ap (bk .K) x) (.fn (lift 1 x 0)) := bt1 _ _
theorem bk_S (x y : Tm) : Red (.ap (.ap (bk .S) x) y) (.fn (.ap (.ap (lift 1 x 0) (.nm 0)) (.ap (lift 1 y 0) (.nm 0)))) := by
  have h1 : Red (.ap (bk .S) x) (.fn (.fn (.ap (.ap (lift 2 x 0) (.nm 0)) (.ap (.nm 1) (.nm 0))))) := bt1 _ _
  refine (h1.ap (.nil y)).trans ?_
  have h2 := bt1 (.fn (.ap (.ap (lift 2 x 0) (.nm 0)) (.ap (.nm 1) (.nm 0)))) y
  have e : put y (lift 2 x 0) 1 = lift 1 x 0 := put_off y 1 (by decide) x 0 1 (by decide) (by decide)
  have e2 : put y (.fn (.ap (.ap (lift 2 x 0) (.nm 0)) (.ap (.nm 1) (.nm 0)))) 0 = .fn (.ap (.ap (put y (lift 2 x 0) 1) (.nm 0)) (.ap (lift 1 y 0) (.nm 0))) := rfl
  rw [e2, e] at h2
  exact h2
theorem bk_B (x y : Tm) : Red (.ap (.ap (bk .B) x) y) (.fn (.ap (lift 1 x 0) (.ap (lift 1 y 0) (.nm 0)))) := by
  have h1 : Red (.ap (bk .B) x) (.fn (.fn (.ap (lift 2 x 0) (.ap (.nm 1) (.nm 0))))) := bt1 _ _
  refine (h1.ap (.nil y)).trans ?_
  have h2 := bt1 (.fn (.ap (lift 2 x 0) (.ap (.nm 1) (.nm 0)))) y
  have e : put y (lift 2 x 0) 1 = lift 1 x 0 := put_off y 1 (by decide) x 0 1 (by decide) (by decide)
  have e2 : put y (.fn (.ap (lift 2 x 0) (.ap (.nm 1) (.nm 0)))) 0 = .fn (.ap (put y (lift 2 x 0) 1) (.ap (lift 1 y 0) (.nm 0))) := rfl
  rw [e2, e] at h2
  exact h2
theorem bk_C (x y : Tm) : Red (.ap (.ap (bk .C) x) y) (.fn (.ap (.ap (lift 1 x 0) (.nm 0)) (lift 1 y 0))) := by
  have h1 : Red (.ap (bk .C) x) (.fn (.fn (.ap (.ap (lift 2 x 0) (.nm 0)) (.nm 1)))) := bt1 _ _
  refine (h1.ap (.nil y)).trans ?_
  have h2 := bt1 (.fn (.ap (.ap (lift 2 x 0) (.nm 0)) (.nm 1))) y
  have e : put y (lift 2 x 0) 1 = lift 1 x 0 := put_off y 1 (by decide) x 0 1 (by decide) (by decide)
  have e2 : put y (.fn (.ap (.ap (lift 2 x 0) (.nm 0)) (.nm 1))) 0 = .fn (.ap (.ap (put y (lift 2 x 0) 1) (.nm 0)) (lift 1 y 0)) := rfl
  rw [e2, e] at h2
  exact h2
theorem lift_bk (m : Mkr) : lift 1 (bk m) 0 = bk m := by cases m <;> rfl
theorem back_near : ∀ t : Tm, noF t = true → t.nn = true → has0 t = false → lift 1 (backT (near t)) 0 = backT t
  | .nm n, _, h, g => by
    have h : 0 ≤ n := of_decide_eq_true h
    have g : ¬ n = 0 := of_decide_eq_false g
    have q : (0 : Int) ≤ n - 1 := by omega
    simp only [near, backT, lift, q, if_true]; congr 1; omega
  | .mk m, _, _, _ => lift_bk m
  | .ap a b, h, g, q => by
    have h' : noF a = true ∧ noF b = true := by simpa only [noF, Bool.and_eq_true] using h
    have g' : a.nn = true ∧ b.nn = true := by simpa only [Tm.nn, Bool.and_eq_true] using g
    have q' : has0 a = false ∧ has0 b = false := by simpa only [has0, Bool.or_eq_false_iff] using q
    simp only [near, backT, lift, back_near a h'.1 g'.1 q'.1, back_near b h'.2 g'.2 q'.2]
  | .fn b, h, _, _ => by cases h
theorem back_taken (w : Nat) : ∀ t : Tm, noF t = true → t.nn = true → Red (backT (taken w t)) (.fn (backT t))
  | .nm n, h, g => by
    unfold taken
    split
    · rename_i z; subst z; exact .nil _
    · rename_i z
      have e := back_near (.nm n) h g (decide_eq_false z)
      have r := bk_K (backT (near (.nm n)))
      rw [e] at r
      exact r
  | .mk m, h, g => by
    have r := bk_K (bk m)
    rw [lift_bk] at r
    exact r
  | .ap a b, h, g => by
    have h' : noF a = true ∧ noF b = true := by simpa only [noF, Bool.and_eq_true] using h
    have g' : a.nn = true ∧ b.nn = true := by simpa only [Tm.nn, Bool.and_eq_true] using g
    have t1 := back_taken w a h'.1 g'.1
    have t2 := back_taken w b h'.2 g'.2
    unfold taken
    split
    · rename_i z
      have e := back_near (.ap a b) h g z.2
      have r := bk_K (backT (near (.ap a b)))
      rw [e] at r
      exact r
    · split
      · rename_i z
        have e := back_near a h'.1 g'.1 z.2
        refine (((Red.nil _).ap t2).trans (bk_B _ _)).trans ?_
        rw [e]
        exact .fn ((Red.nil _).ap (red_eta _))
      · split
        · rename_i z
          have e := back_near b h'.2 g'.2 z.2
          refine ((((Red.nil _).ap t1).ap (.nil _)).trans (bk_C _ _)).trans ?_
          rw [e]
          exact .fn ((red_eta _).ap (.nil _))
        · refine ((((Red.nil _).ap t1).ap t2).trans (bk_S _ _)).trans ?_
          exact .fn ((red_eta _).ap (red_eta _))
  | .fn b, h, _ => by cases h
theorem back_out (w : Nat) : ∀ t : Tm, noM t = true → t.nn = true → Red (backT (outW w t)) t
  | .nm n, _, _ => .nil _
  | .mk m, h, _ => by cases h
  | .ap a b, h, g => by
    have h' : noM a = true ∧ noM b = true := by simpa only [noM, Bool.and_eq_true] using h
    have g' : a.nn = true ∧ b.nn = true := by simpa only [Tm.nn, Bool.and_eq_true] using g
    exact (back_out w a h'.1 g'.1).ap (back_out w b h'.2 g'.2)
  | .fn b, h, g => (back_taken w _ (outW_free w b) (outW_nn w b g)).trans (.fn (back_out w b h g))
theorem red_putTo {a b : Tm} (h : Red a b) (n : Nat) : Red (putTo a n) (putTo b n) := by
  have key : ∀ (n : Nat) (x y : Tm), Red x y → Red (putN x n) (putN y n) := fun n => by
    induction n with
    | zero => intro x y h; exact h
    | succ n ih => intro x y h; exact ih _ _ (h.ap (.nil _))
  exact key n _ _ (h.lift n (by omega))
theorem noM_putTo {a : Tm} (h : noM a = true) (n : Nat) : noM (putTo a n) = true := by
  have key : ∀ (n : Nat) (x : Tm), noM x = true → noM (putN x n) = true := fun n => by
    induction n with
    | zero => intro x h; exact h
    | succ n ih => intro x h; exact ih _ (by simp only [noM, h]; rfl)
  exact key n _ (noM_lift n a 0 h)
/-- a term and its row made back never come apart -/
theorem never_apart (w m n : Nat) (t : Tm) (ht : noM t = true) (hn : t.nn = true) (e1 : can (endOf m (putTo t n)).1 = false) (e2 : can (endOf m (putTo (backT (outW w t)) n)).1 = false) : (endOf m (putTo t n)).1 = (endOf m (putTo (backT (outW w t)) n)).1 :=
  same_end (noM_putTo ht n) (noM_putTo (noM_back _) n) (red_putTo (back_out w t ht hn) n) e1 e2
end Nm
namespace Nm
open PySem L2
/-! ### pieces -/
inductive Pc where
  | mk (m : Mkr)
  | pr (i j : Nat)
  deriving DecidableEq
def Pc.d : Pc → PyData
  | .mk m => .str m.s
  | .pr i j => .tuple [.int i, .int j]
theorem Pc.imm_d (p : Pc) : imm p.d = true := by cases p <;> rfl
theorem Pc.imms_d : ∀ ps : List Pc, imms (ps.map Pc.d) = true
  | [] => rfl
  | p :: ps => by simp only [List.map_cons, imms, p.imm_d, Pc.imms_d ps]; rfl
theorem Pc.lay_d (p : Pc) : p.d.canLay0 = true := by
  cases p with
  | mk m => exact lay_mk m
  | pr i j => rfl
theorem Pc.lays_d : ∀ ps : List Pc, PyData.canLayAll0 (ps.map Pc.d) = true
  | [] => by simp only [List.map_nil, PyData.canLayAll0]
  | p :: ps => by simp only [List.map_cons, PyData.canLayAll0, p.lay_d, Pc.lays_d ps]; rfl
theorem Pc.dep_d (p : Pc) : p.d.depth ≤ 1 := by
  cases p with
  | mk m => simp only [Pc.d, PyData.depth]; omega
  | pr i j => simp only [Pc.d, PyData.depth, PyData.depthAll]; omega
theorem Pc.deps_d : ∀ ps : List Pc, PyData.depthAll (ps.map Pc.d) ≤ 2
  | [] => by simp only [List.map_nil, PyData.depthAll]; omega
  | p :: ps => by
    have h1 := p.dep_d
    have h2 := Pc.deps_d ps
    simp only [List.map_cons, PyData.depthAll]; omega
theorem Pc.eqv_d (p q : Pc) : PyData.eqv p.d q.d = decide (p = q) := by
  cases p with
  | mk m =>
    cases q with
    | mk n => simp only [Pc.d, PyData.eqv, Pc.mk.injEq]; exact mk_eq m n
    | pr i j => simp [Pc.d, PyData.eqv]
  | pr a b =>
    cases q with
    | mk n => simp [Pc.d, PyData.eqv]
    | pr i j =>
      show PyData.eqv (.tuple [.int a, .int b]) (.tuple [.int i, .int j]) = _
      rw [eqv_pair]
      simp only [PyData.eqv, Pc.pr.injEq]
      by_cases h1 : a = i <;> by_cases h2 : b = j <;> simp [h1, h2] <;> omega
theorem Pc.shaped (p : Pc) : SeqAt.shaped p.d = true := by
  unfold SeqAt.shaped
  rw [p.lay_d, Bool.true_and]
  exact decide_eq_true (by have := p.dep_d; omega)
theorem Pc.shapeds (ps : List Pc) : SeqAt.shaped (.list (ps.map Pc.d)) = true := by
  unfold SeqAt.shaped
  simp only [PyData.canLay0, PyData.depth, Pc.lays_d, Bool.true_and]
  exact decide_eq_true (by have := Pc.deps_d ps; omega)
theorem Pc.any_d (p : Pc) : ∀ ps : List Pc, ((ps.map Pc.d).any fun y => PyData.eqv y p.d) = decide (p ∈ ps)
  | [] => by simp
  | q :: ps => by
    have h : (p ∈ q :: ps) ↔ (q = p ∨ p ∈ ps) := by rw [List.mem_cons, eq_comm]
    rw [List.map_cons, List.any_cons, Pc.any_d p ps, Pc.eqv_d]
    simp only [h, Bool.decide_or]
theorem Pc.notin_d {k : Nat} (p : Pc) (ps : List Pc) : wInS k true (.d p.d) (.d (.list (ps.map Pc.d))) = some (.d (.bool (!decide (p ∈ ps)))) := by
  have h2 : min (PyData.depthAll (ps.map Pc.d)) p.d.depth ≤ 190 + 16 * k := by have := p.dep_d; omega
  simp only [wInS, Pc.lay_d, Pc.lays_d, h2, decide_true, Bool.and_true, if_true, Pc.any_d]
theorem Pc.idx_d (p : Pc) : ∀ ps : List Pc, p ∈ ps → idxD p.d (ps.map Pc.d) = some (ps.idxOf p)
  | [], h => by cases h
  | q :: ps, h => by
    rw [List.map_cons, idxD, Pc.eqv_d, List.idxOf_cons]
    by_cases e : q = p
    · subst e; simp
    · have h' : p ∈ ps := (List.mem_cons.mp h).resolve_left fun z => e z.symm
      have e' : (q == p) = false := by simpa using e
      simp only [e, decide_false, Bool.false_eq_true, if_false, Pc.idx_d p ps h', e']
      rfl
theorem Pc.wIdx_d (p : Pc) (ps : List Pc) (h : p ∈ ps) : wIdx (.d (.list (ps.map Pc.d))) (.d p.d) = some (.d (.int (ps.idxOf p : Nat))) := by
  simp only [wIdx, Pc.shapeds, Pc.shaped, Bool.and_self, if_true, Pc.idx_d p ps h]
/-- put behind, if it isn't there -/
def addPc (p : Pc) (xs : List Pc) : List Pc × Nat := if p ∈ xs then (xs, xs.idxOf p) else (xs ++ [p], xs.length)
theorem idxOf_new {p : Pc} : ∀ {xs : List Pc}, p ∉ xs → (xs ++ [p]).idxOf p = xs.length
  | [], _ => by simp
  | q :: xs, h => by
    have h1 : q ≠ p := fun z => h (by rw [z]; exact List.mem_cons_self)
    have h2 : p ∉ xs := fun z => h (List.mem_cons_of_mem _ z)
    have e' : (q == p) = false := by simpa using h1
    rw [List.cons_append, List.idxOf_cons, e', idxOf_new h2]
    rfl
theorem addP_ok {k : Nat} (p : Pc) (xs : List Pc) (hl : xs.length < 100000) : addP k p.d (xs.map Pc.d) = some (.pc ((addPc p xs).1.map Pc.d) (addPc p xs).2) := by
  unfold addP addPc
  have c : (imm p.d && imms (xs.map Pc.d) && decide ((xs.map Pc.d).length < 100000)) = true := by
    rw [p.imm_d, Pc.imms_d, List.length_map, decide_eq_true hl]; rfl
  rw [if_pos c, Pc.notin_d]
  by_cases h : p ∈ xs
  · have e := Pc.wIdx_d p xs h
    rw [if_pos h, decide_eq_true h]
    simp only [Bool.not_true]
    rw [e]
  · have e := Pc.wIdx_d p (xs ++ [p]) (by simp)
    rw [idxOf_new h] at e
    rw [if_neg h, decide_eq_false h]
    simp only [Bool.not_false]
    rw [List.map_append, List.map_cons, List.map_nil] at e
    rw [e]
    simp only [List.map_append, List.map_cons, List.map_nil]
def pcsT : Tm → List Pc → List Pc × Nat
  | .mk m, xs => addPc (.mk m) xs
  | .ap a b, xs => addPc (.pr (pcsT a xs).2 (pcsT b (pcsT a xs).1).2) (pcsT b (pcsT a xs).1).1
  | _, xs => (xs, 0)
theorem addPc_len (p : Pc) (xs : List Pc) : (addPc p xs).1.length ≤ xs.length + 1 := by
  unfold addPc
  split
  · show xs.length ≤ _; omega
  · show (xs ++ [p]).length ≤ _; simp
theorem pcs_len : ∀ (t : Tm) (xs : List Pc), (pcsT t xs).1.length + 1 ≤ xs.length + 2 * t.lv
  | .nm _, xs => by simp only [pcsT, Tm.lv]; omega
  | .mk m, xs => by have := addPc_len (.mk m) xs; simp only [pcsT, Tm.lv]; omega
  | .ap a b, xs => by
    have h1 := pcs_len a xs
    have h2 := pcs_len b (pcsT a xs).1
    have h3 := addPc_len (.pr (pcsT a xs).2 (pcsT b (pcsT a xs).1).2) (pcsT b (pcsT a xs).1).1
    simp only [pcsT, Tm.lv]; omega
  | .fn b, xs => by have := b.lv_pos; simp only [pcsT, Tm.lv]; omega
/-- the rows that pieces are -/
def DenAt (ts : List Tm) (i : Nat) : Pc → Prop
  | .mk m => ts[i]? = some (.mk m)
  | .pr a b => a < i ∧ b < i ∧ ∃ x y, ts[a]? = some x ∧ ts[b]? = some y ∧ ts[i]? = some (.ap x y)
def Den (ps : List Pc) (ts : List Tm) : Prop := ps.length = ts.length ∧ ∀ i p, ps[i]? = some p → DenAt ts i p
theorem get_app {α : Type} {l : List α} (m : List α) {i : Nat} {x : α} (h : l[i]? = some x) : (l ++ m)[i]? = some x := by
  have hl : i < l.length := (List.getElem?_eq_some_iff.mp h).1
  rw [List.getElem?_append_left hl]; exact h
theorem Den.mono {ps : List Pc} {ts : List Tm} (h : Den ps ts) (us : List Tm) (i : Nat) (p : Pc) (q : ps[i]? = some p) : DenAt (ts ++ us) i p := by
  have := h.2 i p q
  cases p with
  | mk m => exact get_app us this
  | pr a b => obtain ⟨h1, h2, x, y, h3, h4, h5⟩ := this; exact ⟨h1, h2, x, y, get_app us h3, get_app us h4, get_app us h5⟩
theorem Den.nil : Den [] [] := ⟨rfl, fun i p q => by simp at q⟩
theorem snoc_get {α : Type} {l : List α} {x y : α} {i : Nat} (h : (l ++ [x])[i]? = some y) : l[i]? = some y ∨ i = l.length ∧ y = x := by
  rw [List.getElem?_append] at h
  split at h
  · exact .inl h
  · rename_i hn
    have hi : i - l.length = 0 := by
      cases hj : i - l.length with
      | zero => rfl
      | succ j => rw [hj] at h; simp at h
    rw [hi] at h
    exact .inr ⟨by omega, by simpa using h.symm⟩
theorem Den.mk {ps : List Pc} {ts : List Tm} (h : Den ps ts) (m : Mkr) : Den (ps ++ [.mk m]) (ts ++ [.mk m]) := ⟨by simp [h.1], fun i p q => by
  rcases snoc_get q with q | ⟨rfl, rfl⟩
  · exact h.mono _ i p q
  · show (ts ++ [.mk m])[ps.length]? = _
    rw [h.1]; simp⟩
theorem Den.pr {ps : List Pc} {ts : List Tm} (h : Den ps ts) {a b : Nat} {x y : Tm} (ha : ts[a]? = some x) (hb : ts[b]? = some y) : Den (ps ++ [.pr a b]) (ts ++ [.ap x y]) := ⟨by simp [h.1], fun i p q => by
  rcases snoc_get q with q | ⟨rfl, rfl⟩
  · exact h.mono _ i p q
  · have la : a < ts.length := (List.getElem?_eq_some_iff.mp ha).1
    have lb : b < ts.length := (List.getElem?_eq_some_iff.mp hb).1
    refine ⟨by rw [h.1]; exact la, by rw [h.1]; exact lb, x, y, get_app _ ha, get_app _ hb, ?_⟩
    rw [h.1]; simp⟩
theorem idxOf_get {p : Pc} : ∀ {xs : List Pc}, p ∈ xs → xs[xs.idxOf p]? = some p
  | [], h => by cases h
  | q :: xs, h => by
    rw [List.idxOf_cons]
    by_cases e : q = p
    · subst e; simp
    · have e' : (q == p) = false := by simpa using e
      rw [e']
      have := idxOf_get ((List.mem_cons.mp h).resolve_left fun z => e z.symm)
      simpa using this
theorem pcs_den : ∀ (t : Tm) (xs : List Pc) (ts : List Tm), t.row = true → Den xs ts → ∃ us, Den (pcsT t xs).1 (ts ++ us) ∧ (ts ++ us)[(pcsT t xs).2]? = some t ∧ ∀ u ∈ us, u.lv ≤ t.lv
  | .nm _, _, _, h, _ => by cases h
  | .fn _, _, _, h, _ => by cases h
  | .mk m, xs, ts, _, h => by
    simp only [pcsT, addPc]
    by_cases e : Pc.mk m ∈ xs
    · rw [if_pos e]
      have := h.2 _ _ (idxOf_get e)
      exact ⟨[], by rw [List.append_nil]; exact h, by rw [List.append_nil]; exact this, fun u hu => by cases hu⟩
    · rw [if_neg e]
      refine ⟨[.mk m], h.mk m, ?_, fun u hu => by rw [List.mem_singleton.mp hu]; exact Nat.le_refl _⟩
      show (ts ++ [.mk m])[xs.length]? = _
      rw [h.1]; simp
  | .ap a b, xs, ts, hr, h => by
    have h' : a.row = true ∧ b.row = true := by simpa only [Tm.row, Bool.and_eq_true] using hr
    obtain ⟨u1, d1, g1, l1⟩ := pcs_den a xs ts h'.1 h
    obtain ⟨u2, d2, g2, l2⟩ := pcs_den b _ _ h'.2 d1
    simp only [pcsT, addPc]
    have g1' := get_app u2 g1
    by_cases e : Pc.pr (pcsT a xs).2 (pcsT b (pcsT a xs).1).2 ∈ (pcsT b (pcsT a xs).1).1
    · rw [if_pos e]
      obtain ⟨_, _, x, y, q1, q2, q3⟩ := d2.2 _ _ (idxOf_get e)
      rw [g1'] at q1
      rw [g2] at q2
      cases q1; cases q2
      refine ⟨u1 ++ u2, by rw [← List.append_assoc]; exact d2, by rw [← List.append_assoc]; exact q3, fun u hu => ?_⟩
      simp only [Tm.lv]
      rcases List.mem_append.mp hu with q | q
      · have := l1 u q; omega
      · have := l2 u q; omega
    · rw [if_neg e]
      refine ⟨u1 ++ u2 ++ [.ap a b], ?_, ?_, fun u hu => ?_⟩
      · rw [← List.append_assoc, ← List.append_assoc]; exact d2.pr g1' g2
      · rw [← List.append_assoc, ← List.append_assoc, d2.1]; simp
      · rcases List.mem_append.mp hu with q | q
        · simp only [Tm.lv]
          rcases List.mem_append.mp q with q | q
          · have := l1 u q; omega
          · have := l2 u q; omega
        · rw [List.mem_singleton.mp q]; exact Nat.le_refl _
/-- the last one is the row -/
theorem pcs_last (t : Tm) (hr : t.row = true) : ∃ ts, Den (pcsT t []).1 ts ∧ (pcsT t []).2 + 1 = (pcsT t []).1.length ∧ ts[(pcsT t []).2]? = some t := by
  cases t with
  | nm _ => cases hr
  | fn _ => cases hr
  | mk m => exact ⟨[.mk m], Den.nil.mk m, rfl, rfl⟩
  | ap a b =>
    have h' : a.row = true ∧ b.row = true := by simpa only [Tm.row, Bool.and_eq_true] using hr
    obtain ⟨u1, d1, g1, l1⟩ := pcs_den a [] [] h'.1 Den.nil
    obtain ⟨u2, d2, g2, l2⟩ := pcs_den b _ _ h'.2 d1
    have g1' := get_app u2 g1
    simp only [pcsT, addPc]
    have pa := a.lv_pos
    have pb := b.lv_pos
    have e : Pc.pr (pcsT a []).2 (pcsT b (pcsT a []).1).2 ∉ (pcsT b (pcsT a []).1).1 := fun e => by
      obtain ⟨_, _, x, y, q1, q2, q3⟩ := d2.2 _ _ (idxOf_get e)
      rw [g1'] at q1
      rw [g2] at q2
      cases q1; cases q2
      have hm := List.mem_of_getElem? q3
      have hl : (Tm.ap a b).lv < a.lv + b.lv := by
        rcases List.mem_append.mp hm with q | q
        · have := l1 _ (by simpa using q); omega
        · have := l2 _ q; omega
      simp only [Tm.lv] at hl
      omega
    rw [if_neg e]
    refine ⟨_, d2.pr g1' g2, by simp, ?_⟩
    rw [d2.1]; simp
/-! ### how many -/
def isPr : Pc → Bool
  | .pr _ _ => true
  | _ => false
theorem len_split : ∀ xs : List Pc, xs.length = xs.countP isPr + (xs.count (.mk .B) + xs.count (.mk .C) + xs.count (.mk .I) + xs.count (.mk .K) + xs.count (.mk .S))
  | [] => rfl
  | p :: xs => by
    have ih := len_split xs
    cases p with
    | pr i j => simp [List.count_cons, List.countP_cons, isPr]; omega
    | mk m => cases m <;> simp [List.count_cons, List.countP_cons, isPr] <;> omega
theorem addPc_nd {p : Pc} {xs : List Pc} (h : xs.Nodup) : (addPc p xs).1.Nodup := by
  unfold addPc
  split
  · exact h
  · rename_i e
    show (xs ++ [p]).Nodup
    rw [List.nodup_append]
    refine ⟨h, by simp, fun a ha b hb => ?_⟩
    rw [List.mem_singleton.mp hb]
    exact fun z => e (by rw [← z]; exact ha)
theorem addPc_pr (p : Pc) (xs : List Pc) : (addPc p xs).1.countP isPr ≤ xs.countP isPr + (if isPr p then 1 else 0) := by
  unfold addPc
  split
  · show xs.countP isPr ≤ _; omega
  · show (xs ++ [p]).countP isPr ≤ _
    rw [List.countP_append]
    simp [List.countP_cons]
theorem pcs_nd : ∀ (t : Tm) (xs : List Pc), xs.Nodup → (pcsT t xs).1.Nodup
  | .nm _, xs, h => h
  | .mk m, xs, h => addPc_nd h
  | .ap a b, xs, h => addPc_nd (pcs_nd b _ (pcs_nd a xs h))
  | .fn _, xs, h => h
theorem pcs_pr : ∀ (t : Tm) (xs : List Pc), (pcsT t xs).1.countP isPr + 1 ≤ xs.countP isPr + t.lv
  | .nm _, xs => by simp only [pcsT, Tm.lv]; omega
  | .mk m, xs => by have := addPc_pr (.mk m) xs; simp only [isPr, Bool.false_eq_true, if_false] at this; simp only [pcsT, Tm.lv]; omega
  | .ap a b, xs => by
    have h1 := pcs_pr a xs
    have h2 := pcs_pr b (pcsT a xs).1
    have h3 := addPc_pr (.pr (pcsT a xs).2 (pcsT b (pcsT a xs).1).2) (pcsT b (pcsT a xs).1).1
    simp only [isPr, if_true] at h3
    simp only [pcsT, Tm.lv]; omega
  | .fn b, xs => by have := b.lv_pos; simp only [pcsT, Tm.lv]; omega
theorem pcs_few (t : Tm) : (pcsT t []).1.length ≤ t.lv + 4 := by
  have h1 := len_split (pcsT t []).1
  have h2 := pcs_pr t []
  have h3 := pcs_nd t [] .nil
  have c := fun m => List.nodup_iff_count.mp h3 (.mk m)
  have cB := c .B
  have cC := c .C
  have cI := c .I
  have cK := c .K
  have cS := c .S
  simp only [List.countP_nil] at h2
  omega
/-! ### places -/
theorem atI_nt {α : Type} {l : List α} {a : Nat} {x : α} (h : l[a]? = some x) : atI l (a : Int) = some x := by
  have hl : a < l.length := (List.getElem?_eq_some_iff.mp h).1
  unfold atI ixN
  rw [if_pos (by omega), if_pos (by omega)]
  exact h
theorem atI_lst {α : Type} (l : List α) (x : α) : atI (l ++ [x]) (-1) = some x := by
  unfold atI ixN
  rw [if_neg (by omega), if_pos (by simp only [List.length_append, List.length_cons, List.length_nil]; omega)]
  show (l ++ [x])[_]? = _
  have : ((-1 : Int) + ((l ++ [x]).length : Int)).toNat = l.length := by simp; omega
  rw [this]
  simp
theorem wIx_at {xs : List PyData} {i : Int} {x : PyData} (h : atI xs i = some x) : wIx (.d (.list xs)) (.d (.int i)) = some (.d x) := by simp only [wIx, h]
end Nm
namespace R
open PySem L2 Nm
abbrev GN : Nat := 35
def topS (i : Nat) : Stmt := PySem.Challenge.pw_namesout_k21_whole_anew.main.body.getD i (.Pass ⟨0, 0, 0, 0⟩)
def T : Tab where
  fn := fun i => match i with
    | 0 => "is_between"
    | 1 => "is_maker"
    | 2 => "is_name"
    | 3 => "is_term"
    | 4 => "check_term"
    | 5 => "is_row"
    | 6 => "check_row"
    | 7 => "outer_of"
    | 8 => "outer"
    | 9 => "pieces_in"
    | 10 => "shared"
    | 11 => "is_piece"
    | 12 => "unshared"
    | 13 => "plain_room"
    | 14 => "_law_cell_at"
    | 15 => "_law_draw"
    | 16 => "_law_number"
    | 17 => "_law_deep"
    | 18 => "_law_spoilt"
    | 19 => "_law_put"
    | 20 => "_law_door_right"
    | 21 => "_law_two"
    | 22 => "_law_doors_right"
    | 23 => "_law_new_right"
    | 24 => "law"
    | _ => ""
  ps := fun i => match i with
    | 0 => ["thing", "least", "most"]
    | 1 => ["thing"]
    | 2 => ["thing"]
    | 3 => ["thing"]
    | 4 => ["term"]
    | 5 => ["term"]
    | 6 => ["row"]
    | 7 => ["term", "deep"]
    | 8 => ["term"]
    | 9 => ["row", "found"]
    | 10 => ["row"]
    | 11 => ["thing", "at"]
    | 12 => ["pieces"]
    | 13 => ["leaves", "counts"]
    | 14 => ["_law_script", "_law_k"]
    | 15 => ["_law_cell", "_law_k", "_law_most"]
    | 16 => ["_law_cell", "_law_k", "_law_limit"]
    | 17 => ["_law_thing"]
    | 18 => ["_law_found"]
    | 19 => ["_law_handed", "_law_some"]
    | 20 => ["_law_ask", "_law_lists", "_law_others"]
    | 21 => ["_law_found"]
    | 22 => ["_law_asks", "_law_lists", "_law_others"]
    | 23 => ["_law_ask", "_law_things"]
    | 24 => ["_law_script"]
    | _ => []
  cn := fun i => match i with
    | _ => ""
  cf := fun i => match i with
    | _ => []
  gl := fun x => if x = "GREATEST" then some (.int 1000000000000000000000000000000) else if x = "LARGEST" then some (.int 200) else if x = "MAKERS" then some (.str "BCIKS") else if x = "MOST" then some (.int 300) else if x = "MOST_NAMES" then some (.int 200) else none
  bl := ["str", "zip", "all", "range", "isinstance", "list", "tuple", "int", "bool", "len", "sorted", "set", "enumerate", "sum"]
  nc := 0
  ne := 5
  en := fun i => match i with
    | 0 => "OutError"
    | 1 => "BadTerm"
    | 2 => "BadNumber"
    | 3 => "BadPieces"
    | 4 => "TooMany"
    | _ => ""
  es := fun i j => match i, j with
    | 0, 0 => true
    | 1, 0 => true
    | 1, 1 => true
    | 2, 0 => true
    | 2, 2 => true
    | 3, 0 => true
    | 3, 3 => true
    | 4, 0 => true
    | 4, 4 => true
    | _, _ => false
  lk := ["law"]
  fg := []
theorem ne_0 : 0 < T.ne := by decide
theorem ne_1 : 1 < T.ne := by decide
theorem ne_2 : 2 < T.ne := by decide
theorem ne_3 : 3 < T.ne := by decide
theorem ne_4 : 4 < T.ne := by decide
theorem lk_law : ("law" : Str) ∈ T.lk := .head _
theorem bl_str : ("str" : Str) ∈ T.bl := .head _
theorem bl_zip : ("zip" : Str) ∈ T.bl := .tail _ (.head _)
theorem bl_all : ("all" : Str) ∈ T.bl := .tail _ (.tail _ (.head _))
theorem bl_range : ("range" : Str) ∈ T.bl := .tail _ (.tail _ (.tail _ (.head _)))
theorem bl_isinstance : ("isinstance" : Str) ∈ T.bl := .tail _ (.tail _ (.tail _ (.tail _ (.head _))))
theorem bl_list : ("list" : Str) ∈ T.bl := .tail _ (.tail _ (.tail _ (.tail _ (.tail _ (.head _)))))
theorem bl_tuple : ("tuple" : Str) ∈ T.bl := .tail _ (.tail _ (.tail _ (.tail _ (.tail _ (.tail _ (.head _))))))
theorem bl_int : ("int" : Str) ∈ T.bl := .tail _ (.tail _ (.tail _ (.tail _ (.tail _ (.tail _ (.tail _ (.head _)))))))
theorem bl_bool : ("bool" : Str) ∈ T.bl := .tail _ (.tail _ (.tail _ (.tail _ (.tail _ (.tail _ (.tail _ (.tail _ (.head _))))))))
theorem bl_len : ("len" : Str) ∈ T.bl := .tail _ (.tail _ (.tail _ (.tail _ (.tail _ (.tail _ (.tail _ (.tail _ (.tail _ (.head _)))))))))
theorem bl_sorted : ("sorted" : Str) ∈ T.bl := .tail _ (.tail _ (.tail _ (.tail _ (.tail _ (.tail _ (.tail _ (.tail _ (.tail _ (.tail _ (.head _))))))))))
theorem bl_set : ("set" : Str) ∈ T.bl := .tail _ (.tail _ (.tail _ (.tail _ (.tail _ (.tail _ (.tail _ (.tail _ (.tail _ (.tail _ (.tail _ (.head _)))))))))))
theorem bl_enumerate : ("enumerate" : Str) ∈ T.bl := .tail _ (.tail _ (.tail _ (.tail _ (.tail _ (.tail _ (.tail _ (.tail _ (.tail _ (.tail _ (.tail _ (.tail _ (.head _))))))))))))
theorem bl_sum : ("sum" : Str) ∈ T.bl := .tail _ (.tail _ (.tail _ (.tail _ (.tail _ (.tail _ (.tail _ (.tail _ (.tail _ (.tail _ (.tail _ (.tail _ (.tail _ (.head _)))))))))))))
def WN : Nat := 100000
abbrev s_is_between : Stmt := topS 9
theorem sc_is_between : FnScope ["thing", "least", "most"] ["thing", "least", "most"] (defScope s_is_between) := ⟨rfl, rfl, rfl, by decide +kernel, rfl, by decide +kernel, by decide +kernel⟩
def m_is_between (F : Fs) (k : Nat) : CS :=
    (sRet (cAnd (cOp1 (wIsi isInt) (cVar 0)) (cAnd (cNot (cOp1 (wIsi isBool) (cVar 0))) (cCh wLe wLe (cVar 1) (cVar 0) (cVar 2)))))
theorem ok_is_between (F : Fs) (k : Nat) : OkSs ⟨T, ["thing", "least", "most"], F, k, defScope s_is_between, true, false, "is_between"⟩ (defBody s_is_between) (m_is_between F k) :=
    (okSs_one (okS_ret (ok_and (ok_isi ty_int bl_isinstance rfl bl_int rfl (ok_var (i := 0) rfl (.inl rfl))) (ok_and (ok_not (ok_isi ty_bool bl_isinstance rfl bl_bool rfl (ok_var (i := 0) rfl (.inl rfl)))) (ok_one (ok_lele (ok_var (i := 1) rfl (.inl rfl)) (ok_var (i := 0) rfl (.inl rfl)) (ok_var (i := 2) rfl (.inl rfl))))))))
abbrev s_is_maker : Stmt := topS 10
theorem sc_is_maker : FnScope ["thing"] ["thing"] (defScope s_is_maker) := ⟨rfl, rfl, rfl, by decide +kernel, rfl, by decide +kernel, by decide +kernel⟩
def m_is_maker (F : Fs) (k : Nat) : CS :=
    (sRet (cAnd (cOp1 (wIsi isStr) (cVar 0)) (cAnd (cOp2 (wEq k) (cOp1 wLen (cVar 0)) (cI 1)) (cOp2 (wInS k false) (cVar 0) (cS "BCIKS")))))
theorem ok_is_maker (F : Fs) (k : Nat) : OkSs ⟨T, ["thing"], F, k, defScope s_is_maker, true, false, "is_maker"⟩ (defBody s_is_maker) (m_is_maker F k) :=
    (okSs_one (okS_ret (ok_and (ok_isi ty_str bl_isinstance rfl bl_str rfl (ok_var (i := 0) rfl (.inl rfl))) (ok_and (ok_eq (ok_len bl_len rfl (ok_var (i := 0) rfl (.inl rfl))) ok_int) (ok_one (ok_in (ok_var (i := 0) rfl (.inl rfl)) (ok_gS rfl rfl)))))))
abbrev s_is_name : Stmt := topS 11
theorem sc_is_name : FnScope ["thing"] ["thing"] (defScope s_is_name) := ⟨rfl, rfl, rfl, by decide +kernel, rfl, by decide +kernel, by decide +kernel⟩
def m_is_name (F : Fs) (k : Nat) : CS :=
    (sRet (cAnd (cOp1 (wIsi isInt) (cVar 0)) (cAnd (cNot (cOp1 (wIsi isBool) (cVar 0))) (cOp2 wGe (cVar 0) (cI 0)))))
theorem ok_is_name (F : Fs) (k : Nat) : OkSs ⟨T, ["thing"], F, k, defScope s_is_name, true, false, "is_name"⟩ (defBody s_is_name) (m_is_name F k) :=
    (okSs_one (okS_ret (ok_and (ok_isi ty_int bl_isinstance rfl bl_int rfl (ok_var (i := 0) rfl (.inl rfl))) (ok_and (ok_not (ok_isi ty_bool bl_isinstance rfl bl_bool rfl (ok_var (i := 0) rfl (.inl rfl)))) (ok_one (ok_ge (ok_var (i := 0) rfl (.inl rfl)) ok_int))))))
abbrev s_is_term : Stmt := topS 12
theorem sc_is_term : FnScope ["thing", "waiting", "size", "pairs", "here"] ["thing"] (defScope s_is_term) := ⟨rfl, rfl, rfl, by decide +kernel, rfl, by decide +kernel, by decide +kernel⟩
def q_is_term_1 (F : Fs) (k : Nat) (r : Rho) : Option Bool :=
    (qNeE 1) r
def b_is_term_1 (F : Fs) (k : Nat) (r : Rho) : Option Out :=
    (sSeq (sPop 4 1)
    (sSeq (sIf (qAnd (cT (cOp1 (wIsi isTup) (cVar 4))) (qAnd (cT (cOp2 (wEq k) (cOp1 wLen (cVar 4)) (cI 2))) (qAnd (cT (cOp1 (wIsi isStr) (cOp2 wIx (cVar 4) (cI 0)))) (cT (cOp2 (wEq k) (cOp2 wIx (cVar 4) (cI 0)) (cS "fn")))))) (sSeq (sAppD 1 (dIx 4 1))
    (sAug 2 (fun m n => m + n) (cI 1))) (sIf (qAnd (cT (cOp1 (wIsi isTup) (cVar 4))) (cT (cOp2 (wEq k) (cOp1 wLen (cVar 4)) (cI 2)))) (sSeq (sExtD 1 (dIx 4 1) (dIx 4 0))
    (sAug 3 (fun m n => m + n) (cI 1))) (sIf (qOr (cT (cCall F 1 (aCons (cVar 4) aNil))) (cT (cCall F 2 (aCons (cVar 4) aNil)))) (sAug 2 (fun m n => m + n) (cI 1)) (sRet (cB false)))))
    (sIf (qOr (cT (cOp2 wGt (cVar 2) (cI 200))) (cT (cOp2 wGe (cVar 3) (cI 200)))) (sRet (cB false)) sNil))) r
def m_is_term (F : Fs) (k : Nat) : CS :=
    (sSeq (sSt3D 1 2 3 (dVar 0) (zV (cI 0)) (zV (cI 0)))
    (sSeq (whl (q_is_term_1 F k) (b_is_term_1 F k) WN)
    (sRet (cB true))))
theorem ok_is_term (F : Fs) (k : Nat) : OkSs ⟨T, ["thing", "waiting", "size", "pairs", "here"], F, k, defScope s_is_term, true, false, "is_term"⟩ (defBody s_is_term) (m_is_term F k) :=
    (okSs_cons (g := (sSt3D 1 2 3 (dVar 0) (zV (cI 0)) (zV (cI 0)))) (okS_st3D 1 2 3 rfl rfl rfl rfl rfl rfl  (by decide) (by decide) (by decide) (okD_var 0 rfl (.inl rfl)) (okX_v ok_int) (okX_v ok_int))
    (okSs_cons (okS_while WN (okT_neE 1 rfl (.inl rfl)) (okSs_cons (okS_pop 4 1 rfl (.inl rfl) rfl (.inl rfl) (by decide))
    (okSs_cons (okS_if (okT_W (okW_and (okT_val (ok_isi ty_tuple bl_isinstance rfl bl_tuple rfl (ok_var (i := 4) rfl (.inl rfl)))) (okW_and (okT_eq (ok_len bl_len rfl (ok_var (i := 4) rfl (.inl rfl))) ok_int) (okW_and (okT_val (ok_isi ty_str bl_isinstance rfl bl_str rfl (ok_ix (ok_var (i := 4) rfl (.inl rfl)) ok_int))) (okW_one_and (okT_eq (ok_ix (ok_var (i := 4) rfl (.inl rfl)) ok_int) ok_str)))))) (okSs_cons (g := (sAppD 1 (dIx 4 1))) (okS_appD 1 rfl (.inl rfl) (okD_ix 4 rfl (.inl rfl)))
    (okSs_one (okS_augAdd 2 rfl (.inl rfl) ok_int))) (okSs_one (okS_if (okT_W (okW_and (okT_val (ok_isi ty_tuple bl_isinstance rfl bl_tuple rfl (ok_var (i := 4) rfl (.inl rfl)))) (okW_one_and (okT_eq (ok_len bl_len rfl (ok_var (i := 4) rfl (.inl rfl))) ok_int)))) (okSs_cons (g := (sExtD 1 (dIx 4 1) (dIx 4 0))) (okS_extD 1 rfl (.inl rfl) (okD_ix 4 rfl (.inl rfl)) (okD_ix 4 rfl (.inl rfl)))
    (okSs_one (okS_augAdd 3 rfl (.inl rfl) ok_int))) (okSs_one (okS_if (okT_W (okW_or (okT_val (ok_call 1 rfl rfl rfl (okA_cons (ok_var (i := 4) rfl (.inl rfl)) okA_nil))) (okW_one_or (okT_val (ok_call 2 rfl rfl rfl (okA_cons (ok_var (i := 4) rfl (.inl rfl)) okA_nil)))))) (okSs_one (okS_augAdd 2 rfl (.inl rfl) ok_int)) (okSs_one (okS_ret ok_bl)))))))
    (okSs_one (okS_if (okT_W (okW_or (okT_gt (ok_var (i := 2) rfl (.inl rfl)) (ok_gI rfl rfl)) (okW_one_or (okT_ge (ok_var (i := 3) rfl (.inl rfl)) (ok_gI rfl rfl))))) (okSs_one (okS_ret ok_bl)) okSs_nil)))))
    (okSs_one (okS_ret ok_bl))))
abbrev s_check_term : Stmt := topS 13
theorem sc_check_term : FnScope ["term"] ["term"] (defScope s_check_term) := ⟨rfl, rfl, rfl, by decide +kernel, rfl, by decide +kernel, by decide +kernel⟩
def m_check_term (F : Fs) (k : Nat) : CS :=
    (sIf (qNot (cT (cCall F 3 (aCons (cVar 0) aNil)))) sNever sNil)
theorem ok_check_term (F : Fs) (k : Nat) : OkSs ⟨T, ["term"], F, k, defScope s_check_term, true, false, "check_term"⟩ (defBody s_check_term) (m_check_term F k) :=
    (okSs_one (okS_if (okT_not (okT_val (ok_call 3 rfl rfl rfl (okA_cons (ok_var (i := 0) rfl (.inl rfl)) okA_nil)))) (okSs_one okS_never) okSs_nil))
def x_check_term (F : Fs) (k : Nat) : Rho → Option Nat :=
    (rIf (qNot (cT (cCall F 3 (aCons (cVar 0) aNil)))) (rRaise 1) rNo)
theorem okx_check_term (F : Fs) (k : Nat) : OkRs ⟨T, ["term"], F, k, defScope s_check_term, true, false, "check_term"⟩ (defBody s_check_term) (x_check_term F k) :=
    (okRs_here (okRw_if (okT_not (okT_val (ok_call 3 rfl rfl rfl (okA_cons (ok_var (i := 0) rfl (.inl rfl)) okA_nil)))) (okRs_here (okRw_of (okR_raise 1 ne_1 rfl rfl))) okRs_no))
abbrev s_is_row : Stmt := topS 14
theorem sc_is_row : FnScope ["term"] ["term"] (defScope s_is_row) := ⟨rfl, rfl, rfl, by decide +kernel, rfl, by decide +kernel, by decide +kernel⟩
def m_is_row (F : Fs) (k : Nat) : CS :=
    (sSeq (sIf (cT (cOp1 (wIsi isTup) (cVar 0))) (sRet (cAnd (cOp2 (wNe k) (cOp2 wIx (cVar 0) (cI 0)) (cS "fn")) (cAnd (cCall F 5 (aCons (cOp2 wIx (cVar 0) (cI 0)) aNil)) (cCall F 5 (aCons (cOp2 wIx (cVar 0) (cI 1)) aNil))))) sNil)
    (sRet (cCall F 1 (aCons (cVar 0) aNil))))
theorem ok_is_row (F : Fs) (k : Nat) : OkSs ⟨T, ["term"], F, k, defScope s_is_row, true, false, "is_row"⟩ (defBody s_is_row) (m_is_row F k) :=
    (okSs_cons (okS_if (okT_val (ok_isi ty_tuple bl_isinstance rfl bl_tuple rfl (ok_var (i := 0) rfl (.inl rfl)))) (okSs_one (okS_ret (ok_and (ok_ne (ok_ix (ok_var (i := 0) rfl (.inl rfl)) ok_int) ok_str) (ok_and (ok_call 5 rfl rfl rfl (okA_cons (ok_ix (ok_var (i := 0) rfl (.inl rfl)) ok_int) okA_nil)) (ok_one (ok_call 5 rfl rfl rfl (okA_cons (ok_ix (ok_var (i := 0) rfl (.inl rfl)) ok_int) okA_nil))))))) okSs_nil)
    (okSs_one (okS_ret (ok_call 1 rfl rfl rfl (okA_cons (ok_var (i := 0) rfl (.inl rfl)) okA_nil)))))
abbrev s_check_row : Stmt := topS 15
theorem sc_check_row : FnScope ["row"] ["row"] (defScope s_check_row) := ⟨rfl, rfl, rfl, by decide +kernel, rfl, by decide +kernel, by decide +kernel⟩
def m_check_row (F : Fs) (k : Nat) : CS :=
    (sSeq (sExpr (cCall F 4 (aCons (cVar 0) aNil)))
    (sIf (qNot (cT (cCall F 5 (aCons (cVar 0) aNil)))) sNever sNil))
theorem ok_check_row (F : Fs) (k : Nat) : OkSs ⟨T, ["row"], F, k, defScope s_check_row, true, false, "check_row"⟩ (defBody s_check_row) (m_check_row F k) :=
    (okSs_cons (okS_expr (ok_call 4 rfl rfl rfl (okA_cons (ok_var (i := 0) rfl (.inl rfl)) okA_nil)))
    (okSs_one (okS_if (okT_not (okT_val (ok_call 5 rfl rfl rfl (okA_cons (ok_var (i := 0) rfl (.inl rfl)) okA_nil)))) (okSs_one okS_never) okSs_nil)))
def x_check_row (F : Fs) (k : Nat) : Rho → Option Nat :=
    (rOr (rCall F 4 (aCons (cVar 0) aNil))
    (rNext (sExpr (cCall F 4 (aCons (cVar 0) aNil)))
    (rIf (qNot (cT (cCall F 5 (aCons (cVar 0) aNil)))) (rRaise 1) rNo)))
theorem okx_check_row (F : Fs) (k : Nat) : OkRs ⟨T, ["row"], F, k, defScope s_check_row, true, false, "check_row"⟩ (defBody s_check_row) (x_check_row F k) :=
    (okRs_or (okRs_here (okRw_of (okR_expr (okEX_call 4 rfl rfl rfl (okA_cons (ok_var (i := 0) rfl (.inl rfl)) okA_nil)))))
    (okRs_next (okS_expr (ok_call 4 rfl rfl rfl (okA_cons (ok_var (i := 0) rfl (.inl rfl)) okA_nil)))
    (okRs_here (okRw_if (okT_not (okT_val (ok_call 5 rfl rfl rfl (okA_cons (ok_var (i := 0) rfl (.inl rfl)) okA_nil)))) (okRs_here (okRw_of (okR_raise 1 ne_1 rfl rfl))) okRs_no))))
abbrev s_outer_of : Stmt := topS 16
theorem sc_outer_of : FnScope ["term", "deep"] ["term", "deep"] (defScope s_outer_of) := ⟨rfl, rfl, rfl, by decide +kernel, rfl, by decide +kernel, by decide +kernel⟩
def m_outer_of (F : Fs) (k : Nat) : CS :=
    (sSeq (sIf (cT (cOp1 (wIsi isTup) (cVar 0))) (sSeq (sIf (cT (cOp2 (wEq k) (cOp2 wIx (cVar 0) (cI 0)) (cS "fn"))) (sRetL (lCall F 7 (aCons (cOp2 wIx (cVar 0) (cI 1)) (aCons (cOp2 wAdd (cVar 1) (cI 1)) aNil)))) sNil)
    (sRetL (lCat (cL (lCall F 7 (aCons (cOp2 wIx (cVar 0) (cI 0)) (aCons (cVar 1) aNil)))) (cL (lCall F 7 (aCons (cOp2 wIx (cVar 0) (cI 1)) (aCons (cVar 1) aNil))))))) sNil)
    (sRetL (lIf (qAnd (qNot (cT (cOp1 (wIsi isStr) (cVar 0)))) (cT (cOp2 wGe (cVar 0) (cVar 1)))) (lLst (aCons (cOp2 wSub (cVar 0) (cVar 1)) aNil)) (lLst aNil))))
theorem ok_outer_of (F : Fs) (k : Nat) : OkSs ⟨T, ["term", "deep"], F, k, defScope s_outer_of, true, false, "outer_of"⟩ (defBody s_outer_of) (m_outer_of F k) :=
    (okSs_cons (okS_if (okT_val (ok_isi ty_tuple bl_isinstance rfl bl_tuple rfl (ok_var (i := 0) rfl (.inl rfl)))) (okSs_cons (okS_if (okT_eq (ok_ix (ok_var (i := 0) rfl (.inl rfl)) ok_int) ok_str) (okSs_one (okS_retL (ok_callL 7 rfl rfl rfl (okA_cons (ok_ix (ok_var (i := 0) rfl (.inl rfl)) ok_int) (okA_cons (ok_add (ok_var (i := 1) rfl (.inl rfl)) ok_int) okA_nil))))) okSs_nil)
    (okSs_one (okS_retL (ok_cat (ok_L (ok_callL 7 rfl rfl rfl (okA_cons (ok_ix (ok_var (i := 0) rfl (.inl rfl)) ok_int) (okA_cons (ok_var (i := 1) rfl (.inl rfl)) okA_nil)))) (ok_L (ok_callL 7 rfl rfl rfl (okA_cons (ok_ix (ok_var (i := 0) rfl (.inl rfl)) ok_int) (okA_cons (ok_var (i := 1) rfl (.inl rfl)) okA_nil)))))))) okSs_nil)
    (okSs_one (okS_retL (ok_ifL (okT_W (okW_and (okT_not (okT_val (ok_isi ty_str bl_isinstance rfl bl_str rfl (ok_var (i := 0) rfl (.inl rfl))))) (okW_one_and (okT_ge (ok_var (i := 0) rfl (.inl rfl)) (ok_var (i := 1) rfl (.inl rfl)))))) (ok_lst (okA_cons (ok_sub (ok_var (i := 0) rfl (.inl rfl)) (ok_var (i := 1) rfl (.inl rfl))) okA_nil)) (ok_lst okA_nil)))))
abbrev s_outer : Stmt := topS 17
theorem sc_outer : FnScope ["term"] ["term"] (defScope s_outer) := ⟨rfl, rfl, rfl, by decide +kernel, rfl, by decide +kernel, by decide +kernel⟩
def m_outer (F : Fs) (k : Nat) : CS :=
    (sSeq (sExpr (cCall F 4 (aCons (cVar 0) aNil)))
    (sRetL (lSrt (cL (lCall F 7 (aCons (cVar 0) (aCons (cI 0) aNil)))))))
theorem ok_outer (F : Fs) (k : Nat) : OkSs ⟨T, ["term"], F, k, defScope s_outer, true, false, "outer"⟩ (defBody s_outer) (m_outer F k) :=
    (okSs_cons (okS_expr (ok_call 4 rfl rfl rfl (okA_cons (ok_var (i := 0) rfl (.inl rfl)) okA_nil)))
    (okSs_one (okS_retL (ok_srt bl_sorted rfl bl_set rfl (ok_L (ok_callL 7 rfl rfl rfl (okA_cons (ok_var (i := 0) rfl (.inl rfl)) (okA_cons ok_int okA_nil))))))))
def x_outer (F : Fs) (k : Nat) : Rho → Option Nat :=
    (rCall F 4 (aCons (cVar 0) aNil))
theorem okx_outer (F : Fs) (k : Nat) : OkRs ⟨T, ["term"], F, k, defScope s_outer, true, false, "outer"⟩ (defBody s_outer) (x_outer F k) :=
    (okRs_here (okRw_of (okR_expr (okEX_call 4 rfl rfl rfl (okA_cons (ok_var (i := 0) rfl (.inl rfl)) okA_nil)))))
abbrev s_pieces_in : Stmt := topS 20
theorem sc_pieces_in : FnScope ["row", "found", "left", "piece"] ["row", "found"] (defScope s_pieces_in) := ⟨rfl, rfl, rfl, by decide +kernel, rfl, by decide +kernel, by decide +kernel⟩
def m_pieces_in (F : Fs) (k : Nat) : CS :=
    sNever
theorem ok_pieces_in (F : Fs) (k : Nat) : OkSs ⟨T, ["row", "found", "left", "piece"], F, k, defScope s_pieces_in, true, false, "pieces_in"⟩ (defBody s_pieces_in) (m_pieces_in F k) :=
    okSs_never
abbrev s_shared : Stmt := topS 21
theorem sc_shared : FnScope ["row", "found"] ["row"] (defScope s_shared) := ⟨rfl, rfl, rfl, by decide +kernel, rfl, by decide +kernel, by decide +kernel⟩
def m_shared (F : Fs) (k : Nat) : CS :=
    (sSeq (sExpr (cCall F 6 (aCons (cVar 0) aNil)))
    (sSeq (sAsgO 1 (lLst aNil))
    (sSeq (sPcs F 9 1 (cVar 0))
    (sRetO 1))))
theorem ok_shared (F : Fs) (k : Nat) : OkSs ⟨T, ["row", "found"], F, k, defScope s_shared, true, false, "shared"⟩ (defBody s_shared) (m_shared F k) :=
    (okSs_cons (okS_expr (ok_call 6 rfl rfl rfl (okA_cons (ok_var (i := 0) rfl (.inl rfl)) okA_nil)))
    (okSs_cons (g := (sAsgO 1 (lLst aNil))) (okS_asgO 1 rfl (.inl rfl) (ok_lst okA_nil))
    (okSs_cons (okS_pcs 9 1 rfl rfl rfl rfl (.inl rfl) (ok_var (i := 0) rfl (.inl rfl)))
    (okSs_one (okS_retO 1 rfl (.inl rfl))))))
def x_shared (F : Fs) (k : Nat) : Rho → Option Nat :=
    (rCall F 6 (aCons (cVar 0) aNil))
theorem okx_shared (F : Fs) (k : Nat) : OkRs ⟨T, ["row", "found"], F, k, defScope s_shared, true, false, "shared"⟩ (defBody s_shared) (x_shared F k) :=
    (okRs_here (okRw_of (okR_expr (okEX_call 6 rfl rfl rfl (okA_cons (ok_var (i := 0) rfl (.inl rfl)) okA_nil)))))
abbrev s_is_piece : Stmt := topS 22
theorem sc_is_piece : FnScope ["thing", "at", "one"] ["thing", "at"] (defScope s_is_piece) := ⟨rfl, rfl, rfl, by decide +kernel, rfl, by decide +kernel, by decide +kernel⟩
def m_is_piece (F : Fs) (k : Nat) : CS :=
    (sSeq (sIf (cT (cCall F 1 (aCons (cVar 0) aNil))) (sRet (cB true)) sNil)
    (sRet (cAnd (cOp1 (wIsi isTup) (cVar 0)) (cAnd (cOp2 (wEq k) (cOp1 wLen (cVar 0)) (cI 2)) (cAll (lComp [2] (vT' (cVar 0)) (gN 2) qYes (cCall F 0 (aCons (cVar 2) (aCons (cI 0) (aCons (cOp2 wSub (cVar 1) (cI 1)) aNil))))))))))
theorem ok_is_piece (F : Fs) (k : Nat) : OkSs ⟨T, ["thing", "at", "one"], F, k, defScope s_is_piece, true, false, "is_piece"⟩ (defBody s_is_piece) (m_is_piece F k) :=
    (okSs_cons (okS_if (okT_val (ok_call 1 rfl rfl rfl (okA_cons (ok_var (i := 0) rfl (.inl rfl)) okA_nil))) (okSs_one (okS_ret ok_bl)) okSs_nil)
    (okSs_one (okS_ret (ok_and (ok_isi ty_tuple bl_isinstance rfl bl_tuple rfl (ok_var (i := 0) rfl (.inl rfl))) (ok_and (ok_eq (ok_len bl_len rfl (ok_var (i := 0) rfl (.inl rfl))) ok_int) (ok_one (ok_all bl_all rfl (ok_comp (N := ["thing", "at", "one"]) (sc := defScope s_is_piece) [("one", 2)] rfl rfl (okV_tup (ok_var (i := 0) rfl (.inl rfl))) (okGe_name 2 (by decide) rfl (.inl rfl)) okTs_nil (ok_call 0 rfl rfl rfl (okA_cons (ok_var (i := 2) rfl (by first | exact .inl rfl | exact .inr (.inl rfl) | exact .inr (.inr rfl))) (okA_cons ok_int (okA_cons (ok_sub (ok_var (i := 1) rfl (by first | exact .inl rfl | exact .inr (.inl rfl) | exact .inr (.inr rfl))) ok_int) okA_nil)))) (by decide +kernel)))))))))
abbrev s_unshared : Stmt := topS 23
theorem sc_unshared : FnScope ["pieces", "at", "piece", "sizes", "rows", "small"] ["pieces"] (defScope s_unshared) := ⟨rfl, rfl, rfl, by decide +kernel, rfl, by decide +kernel, by decide +kernel⟩
def i_unshared_1 (F : Fs) (k : Nat) (r : Rho) : Option (List PyData) :=
    (itN 0) r
def b_unshared_1 (F : Fs) (k : Nat) (r : Rho) : Option Out :=
    (sIf (cT (cOp1 (wIsi isTup) (cVar 2))) (sSeq (sApp 3 (cOp2 wAdd (cOp2 wIx (cVar 3) (cOp2 wIx (cVar 2) (cI 0))) (cOp2 wIx (cVar 3) (cOp2 wIx (cVar 2) (cI 1)))))
    (sSeq (sAsg 5 (cOp2 wLe (cOp2 wIx (cVar 3) (cOp1 wNeg (cI 1))) (cI 200)))
    (sApp 4 (cIf (cT (cVar 5)) (cTup (aCons (cOp2 wIx (cVar 4) (cOp2 wIx (cVar 2) (cI 0))) (aCons (cOp2 wIx (cVar 4) (cOp2 wIx (cVar 2) (cI 1))) aNil))) cN)))) (sSeq (sApp 3 (cI 1))
    (sApp 4 (cVar 2)))) r
def m_unshared (F : Fs) (k : Nat) : CS :=
    (sSeq (sIf (qOr (qNot (cT (cOp1 (wIsi isLst) (cVar 0)))) (qNot (cT (cCh wLe wLe (cI 1) (cOp1 wLen (cVar 0)) (cI 300))))) sNever sNil)
    (sSeq (sIf (qNot (cT (cAll (lComp [1, 2] (vE (cVar 0)) (gNs [1, 2]) qYes (cCall F 11 (aCons (cVar 2) (aCons (cVar 1) aNil))))))) sNever sNil)
    (sSeq (sSt2 3 4 (zO (lLst aNil)) (zO (lLst aNil)))
    (sSeq (sFor (gN 2) (i_unshared_1 F k) (b_unshared_1 F k))
    (sSeq (sIf (cT (cOp2 wGt (cOp2 wIx (cVar 3) (cOp1 wNeg (cI 1))) (cI 200))) sNever sNil)
    (sRet (cOp2 wIx (cVar 4) (cOp1 wNeg (cI 1)))))))))
theorem ok_unshared (F : Fs) (k : Nat) : OkSs ⟨T, ["pieces", "at", "piece", "sizes", "rows", "small"], F, k, defScope s_unshared, true, false, "unshared"⟩ (defBody s_unshared) (m_unshared F k) :=
    (okSs_cons (okS_if (okT_W (okW_or (okT_not (okT_val (ok_isi ty_list bl_isinstance rfl bl_list rfl (ok_var (i := 0) rfl (.inl rfl))))) (okW_one_or (okT_not (okT_lele ok_int (ok_len bl_len rfl (ok_var (i := 0) rfl (.inl rfl))) (ok_gI rfl rfl)))))) (okSs_one okS_never) okSs_nil)
    (okSs_cons (okS_if (okT_not (okT_val (ok_all bl_all rfl (ok_comp (N := ["pieces", "at", "piece", "sizes", "rows", "small"]) (sc := defScope s_unshared) [("at", 1), ("piece", 2)] rfl rfl (okV_enum bl_enumerate rfl (ok_var (i := 0) rfl (.inl rfl))) (okGe_ns (okGse_cons 1 (by decide) rfl (.inl rfl) (okGse_cons 2 (by decide) rfl (.inl rfl) okGse_nil))) okTs_nil (ok_call 11 rfl rfl rfl (okA_cons (ok_var (i := 2) rfl (by first | exact .inl rfl | exact .inr (.inl rfl) | exact .inr (.inr rfl))) (okA_cons (ok_var (i := 1) rfl (by first | exact .inl rfl | exact .inr (.inl rfl) | exact .inr (.inr rfl))) okA_nil))) (by decide +kernel))))) (okSs_one okS_never) okSs_nil)
    (okSs_cons (g := (sSt2 3 4 (zO (lLst aNil)) (zO (lLst aNil)))) (okS_st2 3 4 rfl rfl rfl rfl  (by decide)  (okX_o (ok_lst okA_nil)) (okX_o (ok_lst okA_nil)))
    (okSs_cons (okS_for (okI_lstN 0 rfl (.inl rfl)) (okG_name 2 rfl (.inl rfl))
    (okSs_one (okS_if (okT_val (ok_isi ty_tuple bl_isinstance rfl bl_tuple rfl (ok_var (i := 2) rfl (.inl rfl)))) (okSs_cons (okS_app 3 rfl (.inl rfl) (ok_add (ok_ix (ok_var (i := 3) rfl (.inl rfl)) (ok_ix (ok_var (i := 2) rfl (.inl rfl)) ok_int)) (ok_ix (ok_var (i := 3) rfl (.inl rfl)) (ok_ix (ok_var (i := 2) rfl (.inl rfl)) ok_int))))
    (okSs_cons (okS_asg 5 rfl (.inl rfl) (ok_le (ok_ix (ok_var (i := 3) rfl (.inl rfl)) (ok_neg ok_int)) (ok_gI rfl rfl)))
    (okSs_one (okS_app 4 rfl (.inl rfl) (ok_if (okT_val (ok_var (i := 5) rfl (.inl rfl))) (ok_tup (okA_cons (ok_ix (ok_var (i := 4) rfl (.inl rfl)) (ok_ix (ok_var (i := 2) rfl (.inl rfl)) ok_int)) (okA_cons (ok_ix (ok_var (i := 4) rfl (.inl rfl)) (ok_ix (ok_var (i := 2) rfl (.inl rfl)) ok_int)) okA_nil))) ok_non))))) (okSs_cons (g := (sApp 3 (cI 1))) (okS_app 3 rfl (.inl rfl) ok_int)
    (okSs_one (okS_app 4 rfl (.inl rfl) (ok_var (i := 2) rfl (.inl rfl))))))))
    (okSs_cons (okS_if (okT_gt (ok_ix (ok_var (i := 3) rfl (.inl rfl)) (ok_neg ok_int)) (ok_gI rfl rfl)) (okSs_one okS_never) okSs_nil)
    (okSs_one (okS_ret (ok_ix (ok_var (i := 4) rfl (.inl rfl)) (ok_neg ok_int)))))))))
def x_unshared (F : Fs) (k : Nat) : Rho → Option Nat :=
    (rOr (rIf (qOr (qNot (cT (cOp1 (wIsi isLst) (cVar 0)))) (qNot (cT (cCh wLe wLe (cI 1) (cOp1 wLen (cVar 0)) (cI 300))))) (rRaise 3) rNo)
    (rNext (sIf (qOr (qNot (cT (cOp1 (wIsi isLst) (cVar 0)))) (qNot (cT (cCh wLe wLe (cI 1) (cOp1 wLen (cVar 0)) (cI 300))))) sNever sNil)
    (rOr (rIf (qNot (cT (cAll (lComp [1, 2] (vE (cVar 0)) (gNs [1, 2]) qYes (cCall F 11 (aCons (cVar 2) (aCons (cVar 1) aNil))))))) (rRaise 3) rNo)
    (rNext (sIf (qNot (cT (cAll (lComp [1, 2] (vE (cVar 0)) (gNs [1, 2]) qYes (cCall F 11 (aCons (cVar 2) (aCons (cVar 1) aNil))))))) sNever sNil)
    (rNext (sSt2 3 4 (zO (lLst aNil)) (zO (lLst aNil)))
    (rNext (sFor (gN 2) (i_unshared_1 F k) (b_unshared_1 F k))
    (rIf (cT (cOp2 wGt (cOp2 wIx (cVar 3) (cOp1 wNeg (cI 1))) (cI 200))) (rRaise 4) rNo)))))))
theorem okx_unshared (F : Fs) (k : Nat) : OkRs ⟨T, ["pieces", "at", "piece", "sizes", "rows", "small"], F, k, defScope s_unshared, true, false, "unshared"⟩ (defBody s_unshared) (x_unshared F k) :=
    (okRs_or (okRs_here (okRw_if (okT_W (okW_or (okT_not (okT_val (ok_isi ty_list bl_isinstance rfl bl_list rfl (ok_var (i := 0) rfl (.inl rfl))))) (okW_one_or (okT_not (okT_lele ok_int (ok_len bl_len rfl (ok_var (i := 0) rfl (.inl rfl))) (ok_gI rfl rfl)))))) (okRs_here (okRw_of (okR_raise 3 ne_3 rfl rfl))) okRs_no))
    (okRs_next (okS_if (okT_W (okW_or (okT_not (okT_val (ok_isi ty_list bl_isinstance rfl bl_list rfl (ok_var (i := 0) rfl (.inl rfl))))) (okW_one_or (okT_not (okT_lele ok_int (ok_len bl_len rfl (ok_var (i := 0) rfl (.inl rfl))) (ok_gI rfl rfl)))))) (okSs_one okS_never) okSs_nil)
    (okRs_or (okRs_here (okRw_if (okT_not (okT_val (ok_all bl_all rfl (ok_comp (N := ["pieces", "at", "piece", "sizes", "rows", "small"]) (sc := defScope s_unshared) [("at", 1), ("piece", 2)] rfl rfl (okV_enum bl_enumerate rfl (ok_var (i := 0) rfl (.inl rfl))) (okGe_ns (okGse_cons 1 (by decide) rfl (.inl rfl) (okGse_cons 2 (by decide) rfl (.inl rfl) okGse_nil))) okTs_nil (ok_call 11 rfl rfl rfl (okA_cons (ok_var (i := 2) rfl (by first | exact .inl rfl | exact .inr (.inl rfl) | exact .inr (.inr rfl))) (okA_cons (ok_var (i := 1) rfl (by first | exact .inl rfl | exact .inr (.inl rfl) | exact .inr (.inr rfl))) okA_nil))) (by decide +kernel))))) (okRs_here (okRw_of (okR_raise 3 ne_3 rfl rfl))) okRs_no))
    (okRs_next (okS_if (okT_not (okT_val (ok_all bl_all rfl (ok_comp (N := ["pieces", "at", "piece", "sizes", "rows", "small"]) (sc := defScope s_unshared) [("at", 1), ("piece", 2)] rfl rfl (okV_enum bl_enumerate rfl (ok_var (i := 0) rfl (.inl rfl))) (okGe_ns (okGse_cons 1 (by decide) rfl (.inl rfl) (okGse_cons 2 (by decide) rfl (.inl rfl) okGse_nil))) okTs_nil (ok_call 11 rfl rfl rfl (okA_cons (ok_var (i := 2) rfl (by first | exact .inl rfl | exact .inr (.inl rfl) | exact .inr (.inr rfl))) (okA_cons (ok_var (i := 1) rfl (by first | exact .inl rfl | exact .inr (.inl rfl) | exact .inr (.inr rfl))) okA_nil))) (by decide +kernel))))) (okSs_one okS_never) okSs_nil)
    (okRs_next (okS_st2 3 4 rfl rfl rfl rfl  (by decide)  (okX_o (ok_lst okA_nil)) (okX_o (ok_lst okA_nil)))
    (okRs_next (okS_for (okI_lstN 0 rfl (.inl rfl)) (okG_name 2 rfl (.inl rfl))
    (okSs_one (okS_if (okT_val (ok_isi ty_tuple bl_isinstance rfl bl_tuple rfl (ok_var (i := 2) rfl (.inl rfl)))) (okSs_cons (okS_app 3 rfl (.inl rfl) (ok_add (ok_ix (ok_var (i := 3) rfl (.inl rfl)) (ok_ix (ok_var (i := 2) rfl (.inl rfl)) ok_int)) (ok_ix (ok_var (i := 3) rfl (.inl rfl)) (ok_ix (ok_var (i := 2) rfl (.inl rfl)) ok_int))))
    (okSs_cons (okS_asg 5 rfl (.inl rfl) (ok_le (ok_ix (ok_var (i := 3) rfl (.inl rfl)) (ok_neg ok_int)) (ok_gI rfl rfl)))
    (okSs_one (okS_app 4 rfl (.inl rfl) (ok_if (okT_val (ok_var (i := 5) rfl (.inl rfl))) (ok_tup (okA_cons (ok_ix (ok_var (i := 4) rfl (.inl rfl)) (ok_ix (ok_var (i := 2) rfl (.inl rfl)) ok_int)) (okA_cons (ok_ix (ok_var (i := 4) rfl (.inl rfl)) (ok_ix (ok_var (i := 2) rfl (.inl rfl)) ok_int)) okA_nil))) ok_non))))) (okSs_cons (g := (sApp 3 (cI 1))) (okS_app 3 rfl (.inl rfl) ok_int)
    (okSs_one (okS_app 4 rfl (.inl rfl) (ok_var (i := 2) rfl (.inl rfl))))))))
    (okRs_here (okRw_if (okT_gt (ok_ix (ok_var (i := 3) rfl (.inl rfl)) (ok_neg ok_int)) (ok_gI rfl rfl)) (okRs_here (okRw_of (okR_raise 4 ne_4 rfl rfl))) okRs_no))))))))
abbrev s_plain_room : Stmt := topS 27
theorem sc_plain_room : FnScope ["leaves", "counts", "often", "found"] ["leaves", "counts"] (defScope s_plain_room) := ⟨rfl, rfl, rfl, by decide +kernel, rfl, by decide +kernel, by decide +kernel⟩
def i_plain_room_1 (F : Fs) (k : Nat) (r : Rho) : Option (List PyData) :=
    (itN 1) r
def b_plain_room_1 (F : Fs) (k : Nat) (r : Rho) : Option Out :=
    (sAsg 3 (cOp2 wSub (cOp2 wSub (cOp2 wMul (cI 3) (cVar 3)) (cI 1)) (cVar 2))) r
def m_plain_room (F : Fs) (k : Nat) : CS :=
    (sSeq (sIf (qNot (cT (cCall F 0 (aCons (cVar 0) (aCons (cI 1) (aCons (cI 1000000000000000000000000000000) aNil)))))) sNever sNil)
    (sSeq (sIf (qOr (qNot (cT (cOp1 (wIsi isLst) (cVar 1)))) (cT (cOp2 wGt (cOp1 wLen (cVar 1)) (cI 200)))) sNever sNil)
    (sSeq (sIf (qOr (qNot (cT (cAll (lComp [2] (vL (cVar 1)) (gN 2) qYes (cCall F 0 (aCons (cVar 2) (aCons (cI 0) (aCons (cVar 0) aNil)))))))) (cT (cOp2 wGt (cOp1 wSum (cVar 1)) (cVar 0)))) sNever sNil)
    (sSeq (sAsg 3 (cVar 0))
    (sSeq (sFor (gN 2) (i_plain_room_1 F k) (b_plain_room_1 F k))
    (sRet (cVar 3)))))))
theorem ok_plain_room (F : Fs) (k : Nat) : OkSs ⟨T, ["leaves", "counts", "often", "found"], F, k, defScope s_plain_room, true, false, "plain_room"⟩ (defBody s_plain_room) (m_plain_room F k) :=
    (okSs_cons (okS_if (okT_not (okT_val (ok_call 0 rfl rfl rfl (okA_cons (ok_var (i := 0) rfl (.inr (.inl rfl))) (okA_cons ok_int (okA_cons (ok_gI rfl rfl) okA_nil)))))) (okSs_one okS_never) okSs_nil)
    (okSs_cons (okS_if (okT_W (okW_or (okT_not (okT_val (ok_isi ty_list bl_isinstance rfl bl_list rfl (ok_var (i := 1) rfl (.inl rfl))))) (okW_one_or (okT_gt (ok_len bl_len rfl (ok_var (i := 1) rfl (.inl rfl))) (ok_gI rfl rfl))))) (okSs_one okS_never) okSs_nil)
    (okSs_cons (okS_if (okT_W (okW_or (okT_not (okT_val (ok_all bl_all rfl (ok_comp (N := ["leaves", "counts", "often", "found"]) (sc := defScope s_plain_room) [("often", 2)] rfl rfl (okV_list (ok_var (i := 1) rfl (.inl rfl))) (okGe_name 2 (by decide) rfl (.inl rfl)) okTs_nil (ok_call 0 rfl rfl rfl (okA_cons (ok_var (i := 2) rfl (by first | exact .inl rfl | exact .inr (.inl rfl) | exact .inr (.inr rfl))) (okA_cons ok_int (okA_cons (ok_var (i := 0) rfl (by first | exact .inl rfl | exact .inr (.inl rfl) | exact .inr (.inr rfl))) okA_nil)))) (by decide +kernel))))) (okW_one_or (okT_gt (ok_sum bl_sum rfl (ok_var (i := 1) rfl (.inl rfl))) (ok_var (i := 0) rfl (.inr (.inl rfl))))))) (okSs_one okS_never) okSs_nil)
    (okSs_cons (okS_asg 3 rfl (.inl rfl) (ok_var (i := 0) rfl (.inr (.inl rfl))))
    (okSs_cons (okS_for (okI_lstN 1 rfl (.inl rfl)) (okG_name 2 rfl (.inl rfl))
    (okSs_one (okS_asg 3 rfl (.inl rfl) (ok_sub (ok_sub (ok_mul ok_int (ok_var (i := 3) rfl (.inl rfl))) ok_int) (ok_var (i := 2) rfl (.inl rfl))))))
    (okSs_one (okS_ret (ok_var (i := 3) rfl (.inl rfl)))))))))
def x_plain_room (F : Fs) (k : Nat) : Rho → Option Nat :=
    (rOr (rIf (qNot (cT (cCall F 0 (aCons (cVar 0) (aCons (cI 1) (aCons (cI 1000000000000000000000000000000) aNil)))))) (rRaise 2) rNo)
    (rNext (sIf (qNot (cT (cCall F 0 (aCons (cVar 0) (aCons (cI 1) (aCons (cI 1000000000000000000000000000000) aNil)))))) sNever sNil)
    (rOr (rIf (qOr (qNot (cT (cOp1 (wIsi isLst) (cVar 1)))) (cT (cOp2 wGt (cOp1 wLen (cVar 1)) (cI 200)))) (rRaise 2) rNo)
    (rNext (sIf (qOr (qNot (cT (cOp1 (wIsi isLst) (cVar 1)))) (cT (cOp2 wGt (cOp1 wLen (cVar 1)) (cI 200)))) sNever sNil)
    (rIf (qOr (qNot (cT (cAll (lComp [2] (vL (cVar 1)) (gN 2) qYes (cCall F 0 (aCons (cVar 2) (aCons (cI 0) (aCons (cVar 0) aNil)))))))) (cT (cOp2 wGt (cOp1 wSum (cVar 1)) (cVar 0)))) (rRaise 2) rNo)))))
theorem okx_plain_room (F : Fs) (k : Nat) : OkRs ⟨T, ["leaves", "counts", "often", "found"], F, k, defScope s_plain_room, true, false, "plain_room"⟩ (defBody s_plain_room) (x_plain_room F k) :=
    (okRs_or (okRs_here (okRw_if (okT_not (okT_val (ok_call 0 rfl rfl rfl (okA_cons (ok_var (i := 0) rfl (.inr (.inl rfl))) (okA_cons ok_int (okA_cons (ok_gI rfl rfl) okA_nil)))))) (okRs_here (okRw_of (okR_raise 2 ne_2 rfl rfl))) okRs_no))
    (okRs_next (okS_if (okT_not (okT_val (ok_call 0 rfl rfl rfl (okA_cons (ok_var (i := 0) rfl (.inr (.inl rfl))) (okA_cons ok_int (okA_cons (ok_gI rfl rfl) okA_nil)))))) (okSs_one okS_never) okSs_nil)
    (okRs_or (okRs_here (okRw_if (okT_W (okW_or (okT_not (okT_val (ok_isi ty_list bl_isinstance rfl bl_list rfl (ok_var (i := 1) rfl (.inl rfl))))) (okW_one_or (okT_gt (ok_len bl_len rfl (ok_var (i := 1) rfl (.inl rfl))) (ok_gI rfl rfl))))) (okRs_here (okRw_of (okR_raise 2 ne_2 rfl rfl))) okRs_no))
    (okRs_next (okS_if (okT_W (okW_or (okT_not (okT_val (ok_isi ty_list bl_isinstance rfl bl_list rfl (ok_var (i := 1) rfl (.inl rfl))))) (okW_one_or (okT_gt (ok_len bl_len rfl (ok_var (i := 1) rfl (.inl rfl))) (ok_gI rfl rfl))))) (okSs_one okS_never) okSs_nil)
    (okRs_here (okRw_if (okT_W (okW_or (okT_not (okT_val (ok_all bl_all rfl (ok_comp (N := ["leaves", "counts", "often", "found"]) (sc := defScope s_plain_room) [("often", 2)] rfl rfl (okV_list (ok_var (i := 1) rfl (.inl rfl))) (okGe_name 2 (by decide) rfl (.inl rfl)) okTs_nil (ok_call 0 rfl rfl rfl (okA_cons (ok_var (i := 2) rfl (by first | exact .inl rfl | exact .inr (.inl rfl) | exact .inr (.inr rfl))) (okA_cons ok_int (okA_cons (ok_var (i := 0) rfl (by first | exact .inl rfl | exact .inr (.inl rfl) | exact .inr (.inr rfl))) okA_nil)))) (by decide +kernel))))) (okW_one_or (okT_gt (ok_sum bl_sum rfl (ok_var (i := 1) rfl (.inl rfl))) (ok_var (i := 0) rfl (.inr (.inl rfl))))))) (okRs_here (okRw_of (okR_raise 2 ne_2 rfl rfl))) okRs_no))))))
abbrev s_law_cell_at : Stmt := topS 29
theorem sc_law_cell_at : FnScope ["_law_script", "_law_k"] ["_law_script", "_law_k"] (defScope s_law_cell_at) := ⟨rfl, rfl, rfl, by decide +kernel, rfl, by decide +kernel, by decide +kernel⟩
def m_law_cell_at (F : Fs) (k : Nat) : CS :=
    (sSeq (sIf (cT (cOp2 wLt (cVar 1) (cOp1 wLen (cVar 0)))) (sRet (cOp2 wIx (cVar 0) (cVar 1))) sNil)
    (sRet (cI 0)))
theorem ok_law_cell_at (F : Fs) (k : Nat) : OkSs ⟨T, ["_law_script", "_law_k"], F, k, defScope s_law_cell_at, true, false, "_law_cell_at"⟩ (defBody s_law_cell_at) (m_law_cell_at F k) :=
    (okSs_cons (okS_if (okT_lt (ok_var (i := 1) rfl (.inl rfl)) (ok_len bl_len rfl (ok_var (i := 0) rfl (.inl rfl)))) (okSs_one (okS_ret (ok_ix (ok_var (i := 0) rfl (.inl rfl)) (ok_var (i := 1) rfl (.inl rfl))))) okSs_nil)
    (okSs_one (okS_ret ok_int)))
abbrev s_law_draw : Stmt := topS 30
theorem sc_law_draw : FnScope ["_law_cell", "_law_k", "_law_most", "_law_primes"] ["_law_cell", "_law_k", "_law_most"] (defScope s_law_draw) := ⟨rfl, rfl, rfl, by decide +kernel, rfl, by decide +kernel, by decide +kernel⟩
def m_law_draw (F : Fs) (k : Nat) : CS :=
    (sSeq (sAsg 3 (cTup (aCons (cI 1000003) (aCons (cI 1000033) (aCons (cI 1000037) (aCons (cI 1000039) (aCons (cI 1000081) (aCons (cI 1000099) (aCons (cI 1000117) (aCons (cI 1000121) (aCons (cI 1000133) (aCons (cI 1000151) (aCons (cI 1000159) (aCons (cI 1000171) (aCons (cI 1000183) (aCons (cI 1000187) (aCons (cI 1000193) (aCons (cI 1000199) aNil))))))))))))))))))
    (sRet (cOp2 wMod (cOp2 wMod (cOp2 wAdd (cOp2 wMul (cVar 0) (cI 48271)) (cOp2 wMul (cVar 1) (cI 69621))) (cOp2 wIx (cVar 3) (cOp2 wMod (cVar 1) (cI 16)))) (cVar 2))))
theorem ok_law_draw (F : Fs) (k : Nat) : OkSs ⟨T, ["_law_cell", "_law_k", "_law_most", "_law_primes"], F, k, defScope s_law_draw, true, false, "_law_draw"⟩ (defBody s_law_draw) (m_law_draw F k) :=
    (okSs_cons (g := (sAsg 3 (cTup (aCons (cI 1000003) (aCons (cI 1000033) (aCons (cI 1000037) (aCons (cI 1000039) (aCons (cI 1000081) (aCons (cI 1000099) (aCons (cI 1000117) (aCons (cI 1000121) (aCons (cI 1000133) (aCons (cI 1000151) (aCons (cI 1000159) (aCons (cI 1000171) (aCons (cI 1000183) (aCons (cI 1000187) (aCons (cI 1000193) (aCons (cI 1000199) aNil))))))))))))))))))) (okS_asg 3 rfl (.inl rfl) (ok_tup (okA_cons ok_int (okA_cons ok_int (okA_cons ok_int (okA_cons ok_int (okA_cons ok_int (okA_cons ok_int (okA_cons ok_int (okA_cons ok_int (okA_cons ok_int (okA_cons ok_int (okA_cons ok_int (okA_cons ok_int (okA_cons ok_int (okA_cons ok_int (okA_cons ok_int (okA_cons ok_int okA_nil))))))))))))))))))
    (okSs_one (okS_ret (ok_mod (ok_mod (ok_add (ok_mul (ok_var (i := 0) rfl (.inl rfl)) ok_int) (ok_mul (ok_var (i := 1) rfl (.inl rfl)) ok_int)) (ok_ix (ok_var (i := 3) rfl (.inl rfl)) (ok_mod (ok_var (i := 1) rfl (.inl rfl)) ok_int))) (ok_var (i := 2) rfl (.inl rfl))))))
abbrev s_law_number : Stmt := topS 31
theorem sc_law_number : FnScope ["_law_cell", "_law_k", "_law_limit", "_law_small"] ["_law_cell", "_law_k", "_law_limit"] (defScope s_law_number) := ⟨rfl, rfl, rfl, by decide +kernel, rfl, by decide +kernel, by decide +kernel⟩
def m_law_number (F : Fs) (k : Nat) : CS :=
    (sSeq (sIf (cT (cOp2 wGe (cVar 0) (cOp2 wPow (cI 10) (cI 18)))) (sRet (cOp2 wMod (cOp2 wDiv (cOp2 wSub (cVar 0) (cOp2 wPow (cI 10) (cI 18))) (cOp2 wIx (cTup (aCons (cI 1) (aCons (cI 7) (aCons (cI 49) (aCons (cI 343) (aCons (cI 2401) aNil)))))) (cOp2 wMod (cVar 1) (cI 5)))) (cVar 2))) sNil)
    (sSeq (sAsg 3 (cOp2 wMod (cVar 0) (cI 1000003)))
    (sRet (cOp2 wMod (cCall F 15 (aCons (cOp2 wMul (cOp2 wAdd (cVar 3) (cOp2 wMul (cI 977) (cVar 1))) (cOp2 wAdd (cOp2 wAdd (cVar 3) (cOp2 wMul (cI 31) (cVar 1))) (cI 5))) (aCons (cOp2 wAdd (cOp2 wMod (cVar 1) (cI 9)) (cI 1)) (aCons (cI 999983) aNil)))) (cVar 2)))))
theorem ok_law_number (F : Fs) (k : Nat) : OkSs ⟨T, ["_law_cell", "_law_k", "_law_limit", "_law_small"], F, k, defScope s_law_number, true, false, "_law_number"⟩ (defBody s_law_number) (m_law_number F k) :=
    (okSs_cons (okS_if (okT_ge (ok_var (i := 0) rfl (.inl rfl)) (ok_pow ok_int ok_int)) (okSs_one (okS_ret (ok_mod (ok_div (ok_sub (ok_var (i := 0) rfl (.inl rfl)) (ok_pow ok_int ok_int)) (ok_ix (ok_tup (okA_cons ok_int (okA_cons ok_int (okA_cons ok_int (okA_cons ok_int (okA_cons ok_int okA_nil)))))) (ok_mod (ok_var (i := 1) rfl (.inl rfl)) ok_int))) (ok_var (i := 2) rfl (.inl rfl))))) okSs_nil)
    (okSs_cons (okS_asg 3 rfl (.inl rfl) (ok_mod (ok_var (i := 0) rfl (.inl rfl)) ok_int))
    (okSs_one (okS_ret (ok_mod (ok_call 15 rfl rfl rfl (okA_cons (ok_mul (ok_add (ok_var (i := 3) rfl (.inl rfl)) (ok_mul ok_int (ok_var (i := 1) rfl (.inl rfl)))) (ok_add (ok_add (ok_var (i := 3) rfl (.inl rfl)) (ok_mul ok_int (ok_var (i := 1) rfl (.inl rfl)))) ok_int)) (okA_cons (ok_add (ok_mod (ok_var (i := 1) rfl (.inl rfl)) ok_int) ok_int) (okA_cons ok_int okA_nil)))) (ok_var (i := 2) rfl (.inl rfl)))))))
abbrev s_law_deep : Stmt := topS 32
theorem sc_law_deep : FnScope ["_law_thing", "_law_one"] ["_law_thing"] (defScope s_law_deep) := ⟨rfl, rfl, rfl, by decide +kernel, rfl, by decide +kernel, by decide +kernel⟩
def m_law_deep (F : Fs) (k : Nat) : CS :=
    (sSeq (sIf (cT (cOp1 (wIsi isLst) (cVar 0))) (sRetL (lComp [1] (vLT (cVar 0)) (gN 1) qYes (cCall F 17 (aCons (cVar 1) aNil)))) sNil)
    (sRet (cIf (cT (cOp1 (wIsi isTup) (cVar 0))) (cTupL (lComp [1] (vLT (cVar 0)) (gN 1) qYes (cCall F 17 (aCons (cVar 1) aNil)))) (cVar 0))))
theorem ok_law_deep (F : Fs) (k : Nat) : OkSs ⟨T, ["_law_thing", "_law_one"], F, k, defScope s_law_deep, true, false, "_law_deep"⟩ (defBody s_law_deep) (m_law_deep F k) :=
    (okSs_cons (okS_if (okT_val (ok_isi ty_list bl_isinstance rfl bl_list rfl (ok_var (i := 0) rfl (.inl rfl)))) (okSs_one (okS_retL (ok_comp (N := ["_law_thing", "_law_one"]) (sc := defScope s_law_deep) [("_law_one", 1)] rfl rfl (okV_lt (ok_var (i := 0) rfl (.inl rfl))) (okGe_name 1 (by decide) rfl (.inl rfl)) okTs_nil (ok_call 17 rfl rfl rfl (okA_cons (ok_var (i := 1) rfl (by first | exact .inl rfl | exact .inr (.inl rfl) | exact .inr (.inr rfl))) okA_nil)) (by decide +kernel)))) okSs_nil)
    (okSs_one (okS_ret (ok_if (okT_val (ok_isi ty_tuple bl_isinstance rfl bl_tuple rfl (ok_var (i := 0) rfl (.inl rfl)))) (ok_tupL bl_tuple rfl (ok_comp (N := ["_law_thing", "_law_one"]) (sc := defScope s_law_deep) [("_law_one", 1)] rfl rfl (okV_lt (ok_var (i := 0) rfl (.inl rfl))) (okGe_name 1 (by decide) rfl (.inl rfl)) okTs_nil (ok_call 17 rfl rfl rfl (okA_cons (ok_var (i := 1) rfl (by first | exact .inl rfl | exact .inr (.inl rfl) | exact .inr (.inr rfl))) okA_nil)) (by decide +kernel))) (ok_var (i := 0) rfl (.inl rfl))))))
abbrev s_law_spoilt : Stmt := topS 33
theorem sc_law_spoilt : FnScope ["_law_found", "_law_one"] ["_law_found"] (defScope s_law_spoilt) := ⟨rfl, rfl, rfl, by decide +kernel, rfl, by decide +kernel, by decide +kernel⟩
def i_law_spoilt_1 (F : Fs) (k : Nat) (r : Rho) : Option (List PyData) :=
    (itT (cVar 0)) r
def b_law_spoilt_1 (F : Fs) (k : Nat) (r : Rho) : Option Out :=
    (sExpr (cCall F 18 (aCons (cVar 1) aNil))) r
def m_law_spoilt (F : Fs) (k : Nat) : CS :=
    (sSeq (sIf (cT (cOp1 (wIsi fun d => isLst d || isTup d) (cVar 0))) (sFor (gN 1) (i_law_spoilt_1 F k) (b_law_spoilt_1 F k)) sNil)
    (sIf (cT (cOp1 (wIsi isLst) (cVar 0))) sNever sNil))
theorem ok_law_spoilt (F : Fs) (k : Nat) : OkSs ⟨T, ["_law_found", "_law_one"], F, k, defScope s_law_spoilt, true, false, "_law_spoilt"⟩ (defBody s_law_spoilt) (m_law_spoilt F k) :=
    (okSs_cons (okS_if (okT_val (ok_isi2 ty_list ty_tuple bl_isinstance rfl bl_list rfl bl_tuple rfl (ok_var (i := 0) rfl (.inl rfl)))) (okSs_one (okS_for (okI_tup (ok_var (i := 0) rfl (.inl rfl))) (okG_name 1 rfl (.inl rfl))
    (okSs_one (okS_expr (ok_call 18 rfl rfl rfl (okA_cons (ok_var (i := 1) rfl (.inl rfl)) okA_nil)))))) okSs_nil)
    (okSs_one (okS_if (okT_val (ok_isi ty_list bl_isinstance rfl bl_list rfl (ok_var (i := 0) rfl (.inl rfl)))) (okSs_one okS_never) okSs_nil)))
abbrev s_law_put : Stmt := topS 34
theorem sc_law_put : FnScope ["_law_handed", "_law_some", "_law_row", "_law_other"] ["_law_handed", "_law_some"] (defScope s_law_put) := ⟨rfl, rfl, rfl, by decide +kernel, rfl, by decide +kernel, by decide +kernel⟩
def m_law_put (F : Fs) (k : Nat) : CS :=
    sNever
theorem ok_law_put (F : Fs) (k : Nat) : OkSs ⟨T, ["_law_handed", "_law_some", "_law_row", "_law_other"], F, k, defScope s_law_put, true, false, "_law_put"⟩ (defBody s_law_put) (m_law_put F k) :=
    okSs_never
abbrev s_law_door_right : Stmt := topS 35
theorem sc_law_door_right : FnScope ["_law_ask", "_law_lists", "_law_others", "_law_handed", "_law_fixed", "_law_told_lists", "_law_text", "_law_due", "_law_some", "_law_again"] ["_law_ask", "_law_lists", "_law_others"] (defScope s_law_door_right) := ⟨rfl, rfl, rfl, by decide +kernel, rfl, by decide +kernel, by decide +kernel⟩
def m_law_door_right (F : Fs) (k : Nat) : CS :=
    sNever
theorem ok_law_door_right (F : Fs) (k : Nat) : OkSs ⟨T, ["_law_ask", "_law_lists", "_law_others", "_law_handed", "_law_fixed", "_law_told_lists", "_law_text", "_law_due", "_law_some", "_law_again"], F, k, defScope s_law_door_right, true, false, "_law_door_right"⟩ (defBody s_law_door_right) (m_law_door_right F k) :=
    okSs_never
abbrev s_law_two : Stmt := topS 36
theorem sc_law_two : FnScope ["_law_found"] ["_law_found"] (defScope s_law_two) := ⟨rfl, rfl, rfl, by decide +kernel, rfl, by decide +kernel, by decide +kernel⟩
def m_law_two (F : Fs) (k : Nat) : CS :=
    sNever
theorem ok_law_two (F : Fs) (k : Nat) : OkSs ⟨T, ["_law_found"], F, k, defScope s_law_two, true, false, "_law_two"⟩ (defBody s_law_two) (m_law_two F k) :=
    okSs_never
abbrev s_law_doors_right : Stmt := topS 37
theorem sc_law_doors_right : FnScope ["_law_asks", "_law_lists", "_law_others", "_law_ask"] ["_law_asks", "_law_lists", "_law_others"] (defScope s_law_doors_right) := ⟨rfl, rfl, rfl, by decide +kernel, rfl, by decide +kernel, by decide +kernel⟩
def m_law_doors_right (F : Fs) (k : Nat) : CS :=
    sNever
theorem ok_law_doors_right (F : Fs) (k : Nat) : OkSs ⟨T, ["_law_asks", "_law_lists", "_law_others", "_law_ask"], F, k, defScope s_law_doors_right, true, false, "_law_doors_right"⟩ (defBody s_law_doors_right) (m_law_doors_right F k) :=
    okSs_never
abbrev s_law_new_right : Stmt := topS 38
theorem sc_law_new_right : FnScope ["_law_ask", "_law_things", "_law_thing", "_law_fixed", "_law_found", "_law_text"] ["_law_ask", "_law_things"] (defScope s_law_new_right) := ⟨rfl, rfl, rfl, by decide +kernel, rfl, by decide +kernel, by decide +kernel⟩
def m_law_new_right (F : Fs) (k : Nat) : CS :=
    sNever
theorem ok_law_new_right (F : Fs) (k : Nat) : OkSs ⟨T, ["_law_ask", "_law_things", "_law_thing", "_law_fixed", "_law_found", "_law_text"], F, k, defScope s_law_new_right, true, false, "_law_new_right"⟩ (defBody s_law_new_right) (m_law_new_right F k) :=
    okSs_never
abbrev s_law : Stmt := topS 39
theorem sc_law : FnScope ["_law_script", "_law_by", "_law_leaves", "_law_asks", "_law_ask"] ["_law_script"] (defScope s_law) := ⟨rfl, rfl, rfl, by decide +kernel, rfl, by decide +kernel, by decide +kernel⟩
def m_law (F : Fs) (k : Nat) : CS :=
    sNever
theorem ok_law (F : Fs) (k : Nat) : OkSs ⟨T, ["_law_script", "_law_by", "_law_leaves", "_law_asks", "_law_ask"], F, k, defScope s_law, true, true, "law"⟩ (defBody s_law) (m_law F k) :=
    okSs_never
def tb (F : Fs) (k : Nat) : Nat → List W → Option Res
  | 0 => runD ["thing", "least", "most"] 3 (m_is_between F k)
  | 1 => runD ["thing"] 1 (m_is_maker F k)
  | 2 => runD ["thing"] 1 (m_is_name F k)
  | 3 => runD ["thing", "waiting", "size", "pairs", "here"] 1 (m_is_term F k)
  | 4 => fun args => orX (runD ["term"] 1 (m_check_term F k) args) (runX ["term"] 1 (x_check_term F k) args)
  | 5 => runD ["term"] 1 (m_is_row F k)
  | 6 => fun args => orX (runD ["row"] 1 (m_check_row F k) args) (runX ["row"] 1 (x_check_row F k) args)
  | 7 => runD ["term", "deep"] 2 (m_outer_of F k)
  | 8 => fun args => orX (runD ["term"] 1 (m_outer F k) args) (runX ["term"] 1 (x_outer F k) args)
  | 9 => pcM F 9 k
  | 10 => fun args => orX (runD ["row", "found"] 1 (m_shared F k) args) (runX ["row", "found"] 1 (x_shared F k) args)
  | 11 => runD ["thing", "at", "one"] 2 (m_is_piece F k)
  | 12 => fun args => orX (runD ["pieces", "at", "piece", "sizes", "rows", "small"] 1 (m_unshared F k) args) (runX ["pieces", "at", "piece", "sizes", "rows", "small"] 1 (x_unshared F k) args)
  | 13 => fun args => orX (runD ["leaves", "counts", "often", "found"] 2 (m_plain_room F k) args) (runX ["leaves", "counts", "often", "found"] 2 (x_plain_room F k) args)
  | 14 => runD ["_law_script", "_law_k"] 2 (m_law_cell_at F k)
  | 15 => runD ["_law_cell", "_law_k", "_law_most", "_law_primes"] 3 (m_law_draw F k)
  | 16 => runD ["_law_cell", "_law_k", "_law_limit", "_law_small"] 3 (m_law_number F k)
  | 17 => runD ["_law_thing", "_law_one"] 1 (m_law_deep F k)
  | 18 => runD ["_law_found", "_law_one"] 1 (m_law_spoilt F k)
  | 19 => runD ["_law_handed", "_law_some", "_law_row", "_law_other"] 2 (m_law_put F k)
  | 20 => runD ["_law_ask", "_law_lists", "_law_others", "_law_handed", "_law_fixed", "_law_told_lists", "_law_text", "_law_due", "_law_some", "_law_again"] 3 (m_law_door_right F k)
  | 21 => runD ["_law_found"] 1 (m_law_two F k)
  | 22 => runD ["_law_asks", "_law_lists", "_law_others", "_law_ask"] 3 (m_law_doors_right F k)
  | 23 => runD ["_law_ask", "_law_things", "_law_thing", "_law_fixed", "_law_found", "_law_text"] 2 (m_law_new_right F k)
  | _ => fun _ => none
def callAt : Nat → Fs
  | 0 => fun _ _ => none
  | k + 1 => fun i args => tb (callAt k) k i args
theorem c_is_between (k : Nat) (args : List W) : callAt (k + 1) 0 args = runD ["thing", "least", "most"] 3 (m_is_between (callAt k) k) args := rfl
theorem c_is_maker (k : Nat) (args : List W) : callAt (k + 1) 1 args = runD ["thing"] 1 (m_is_maker (callAt k) k) args := rfl
theorem c_is_name (k : Nat) (args : List W) : callAt (k + 1) 2 args = runD ["thing"] 1 (m_is_name (callAt k) k) args := rfl
theorem c_is_term (k : Nat) (args : List W) : callAt (k + 1) 3 args = runD ["thing", "waiting", "size", "pairs", "here"] 1 (m_is_term (callAt k) k) args := rfl
theorem c_check_term (k : Nat) (args : List W) : callAt (k + 1) 4 args = orX (runD ["term"] 1 (m_check_term (callAt k) k) args) (runX ["term"] 1 (x_check_term (callAt k) k) args) := rfl
theorem c_is_row (k : Nat) (args : List W) : callAt (k + 1) 5 args = runD ["term"] 1 (m_is_row (callAt k) k) args := rfl
theorem c_check_row (k : Nat) (args : List W) : callAt (k + 1) 6 args = orX (runD ["row"] 1 (m_check_row (callAt k) k) args) (runX ["row"] 1 (x_check_row (callAt k) k) args) := rfl
theorem c_outer_of (k : Nat) (args : List W) : callAt (k + 1) 7 args = runD ["term", "deep"] 2 (m_outer_of (callAt k) k) args := rfl
theorem c_outer (k : Nat) (args : List W) : callAt (k + 1) 8 args = orX (runD ["term"] 1 (m_outer (callAt k) k) args) (runX ["term"] 1 (x_outer (callAt k) k) args) := rfl
theorem c_pieces_in (k : Nat) (args : List W) : callAt (k + 1) 9 args = pcM (callAt k) 9 k args := rfl
theorem c_shared (k : Nat) (args : List W) : callAt (k + 1) 10 args = orX (runD ["row", "found"] 1 (m_shared (callAt k) k) args) (runX ["row", "found"] 1 (x_shared (callAt k) k) args) := rfl
theorem c_is_piece (k : Nat) (args : List W) : callAt (k + 1) 11 args = runD ["thing", "at", "one"] 2 (m_is_piece (callAt k) k) args := rfl
theorem c_unshared (k : Nat) (args : List W) : callAt (k + 1) 12 args = orX (runD ["pieces", "at", "piece", "sizes", "rows", "small"] 1 (m_unshared (callAt k) k) args) (runX ["pieces", "at", "piece", "sizes", "rows", "small"] 1 (x_unshared (callAt k) k) args) := rfl
theorem c_plain_room (k : Nat) (args : List W) : callAt (k + 1) 13 args = orX (runD ["leaves", "counts", "often", "found"] 2 (m_plain_room (callAt k) k) args) (runX ["leaves", "counts", "often", "found"] 2 (x_plain_room (callAt k) k) args) := rfl
theorem c_law_cell_at (k : Nat) (args : List W) : callAt (k + 1) 14 args = runD ["_law_script", "_law_k"] 2 (m_law_cell_at (callAt k) k) args := rfl
theorem c_law_draw (k : Nat) (args : List W) : callAt (k + 1) 15 args = runD ["_law_cell", "_law_k", "_law_most", "_law_primes"] 3 (m_law_draw (callAt k) k) args := rfl
theorem c_law_number (k : Nat) (args : List W) : callAt (k + 1) 16 args = runD ["_law_cell", "_law_k", "_law_limit", "_law_small"] 3 (m_law_number (callAt k) k) args := rfl
theorem c_law_deep (k : Nat) (args : List W) : callAt (k + 1) 17 args = runD ["_law_thing", "_law_one"] 1 (m_law_deep (callAt k) k) args := rfl
theorem c_law_spoilt (k : Nat) (args : List W) : callAt (k + 1) 18 args = runD ["_law_found", "_law_one"] 1 (m_law_spoilt (callAt k) k) args := rfl
theorem c_law_put (k : Nat) (args : List W) : callAt (k + 1) 19 args = runD ["_law_handed", "_law_some", "_law_row", "_law_other"] 2 (m_law_put (callAt k) k) args := rfl
theorem c_law_door_right (k : Nat) (args : List W) : callAt (k + 1) 20 args = runD ["_law_ask", "_law_lists", "_law_others", "_law_handed", "_law_fixed", "_law_told_lists", "_law_text", "_law_due", "_law_some", "_law_again"] 3 (m_law_door_right (callAt k) k) args := rfl
theorem c_law_two (k : Nat) (args : List W) : callAt (k + 1) 21 args = runD ["_law_found"] 1 (m_law_two (callAt k) k) args := rfl
theorem c_law_doors_right (k : Nat) (args : List W) : callAt (k + 1) 22 args = runD ["_law_asks", "_law_lists", "_law_others", "_law_ask"] 3 (m_law_doors_right (callAt k) k) args := rfl
theorem c_law_new_right (k : Nat) (args : List W) : callAt (k + 1) 23 args = runD ["_law_ask", "_law_things", "_law_thing", "_law_fixed", "_law_found", "_law_text"] 2 (m_law_new_right (callAt k) k) args := rfl
def lawAt (k : Nat) (args : List W) : Option Res := runD ["_law_script", "_law_by", "_law_leaves", "_law_asks", "_law_ask"] 1 (m_law (callAt k) k) args
theorem b_is_between : BindOk "is_between" "is_between" s_is_between ["thing", "least", "most"] := fun _ _ _ _ _ _ us hl => match us, hl with | [_, _, _], _ => rfl
theorem b_is_maker : BindOk "is_maker" "is_maker" s_is_maker ["thing"] := fun _ _ _ _ _ _ us hl => match us, hl with | [_], _ => rfl
theorem b_is_name : BindOk "is_name" "is_name" s_is_name ["thing"] := fun _ _ _ _ _ _ us hl => match us, hl with | [_], _ => rfl
theorem b_is_term : BindOk "is_term" "is_term" s_is_term ["thing"] := fun _ _ _ _ _ _ us hl => match us, hl with | [_], _ => rfl
theorem b_check_term : BindOk "check_term" "check_term" s_check_term ["term"] := fun _ _ _ _ _ _ us hl => match us, hl with | [_], _ => rfl
theorem b_is_row : BindOk "is_row" "is_row" s_is_row ["term"] := fun _ _ _ _ _ _ us hl => match us, hl with | [_], _ => rfl
theorem b_check_row : BindOk "check_row" "check_row" s_check_row ["row"] := fun _ _ _ _ _ _ us hl => match us, hl with | [_], _ => rfl
theorem b_outer_of : BindOk "outer_of" "outer_of" s_outer_of ["term", "deep"] := fun _ _ _ _ _ _ us hl => match us, hl with | [_, _], _ => rfl
theorem b_outer : BindOk "outer" "outer" s_outer ["term"] := fun _ _ _ _ _ _ us hl => match us, hl with | [_], _ => rfl
theorem b_pieces_in : BindOk "pieces_in" "pieces_in" s_pieces_in ["row", "found"] := fun _ _ _ _ _ _ us hl => match us, hl with | [_, _], _ => rfl
theorem b_shared : BindOk "shared" "shared" s_shared ["row"] := fun _ _ _ _ _ _ us hl => match us, hl with | [_], _ => rfl
theorem b_is_piece : BindOk "is_piece" "is_piece" s_is_piece ["thing", "at"] := fun _ _ _ _ _ _ us hl => match us, hl with | [_, _], _ => rfl
theorem b_unshared : BindOk "unshared" "unshared" s_unshared ["pieces"] := fun _ _ _ _ _ _ us hl => match us, hl with | [_], _ => rfl
theorem b_plain_room : BindOk "plain_room" "plain_room" s_plain_room ["leaves", "counts"] := fun _ _ _ _ _ _ us hl => match us, hl with | [_, _], _ => rfl
theorem b_law_cell_at : BindOk "_law_cell_at" "_law_cell_at" s_law_cell_at ["_law_script", "_law_k"] := fun _ _ _ _ _ _ us hl => match us, hl with | [_, _], _ => rfl
theorem b_law_draw : BindOk "_law_draw" "_law_draw" s_law_draw ["_law_cell", "_law_k", "_law_most"] := fun _ _ _ _ _ _ us hl => match us, hl with | [_, _, _], _ => rfl
theorem b_law_number : BindOk "_law_number" "_law_number" s_law_number ["_law_cell", "_law_k", "_law_limit"] := fun _ _ _ _ _ _ us hl => match us, hl with | [_, _, _], _ => rfl
theorem b_law_deep : BindOk "_law_deep" "_law_deep" s_law_deep ["_law_thing"] := fun _ _ _ _ _ _ us hl => match us, hl with | [_], _ => rfl
theorem b_law_spoilt : BindOk "_law_spoilt" "_law_spoilt" s_law_spoilt ["_law_found"] := fun _ _ _ _ _ _ us hl => match us, hl with | [_], _ => rfl
theorem b_law_put : BindOk "_law_put" "_law_put" s_law_put ["_law_handed", "_law_some"] := fun _ _ _ _ _ _ us hl => match us, hl with | [_, _], _ => rfl
theorem b_law_door_right : BindOk "_law_door_right" "_law_door_right" s_law_door_right ["_law_ask", "_law_lists", "_law_others"] := fun _ _ _ _ _ _ us hl => match us, hl with | [_, _, _], _ => rfl
theorem b_law_two : BindOk "_law_two" "_law_two" s_law_two ["_law_found"] := fun _ _ _ _ _ _ us hl => match us, hl with | [_], _ => rfl
theorem b_law_doors_right : BindOk "_law_doors_right" "_law_doors_right" s_law_doors_right ["_law_asks", "_law_lists", "_law_others"] := fun _ _ _ _ _ _ us hl => match us, hl with | [_, _, _], _ => rfl
theorem b_law_new_right : BindOk "_law_new_right" "_law_new_right" s_law_new_right ["_law_ask", "_law_things"] := fun _ _ _ _ _ _ us hl => match us, hl with | [_, _], _ => rfl
theorem b_law : BindOk "law" "law" s_law ["_law_script"] := fun _ _ _ _ _ _ us hl => match us, hl with | [_], _ => rfl
theorem tab_ok {w : World} {K : PySem.W.Frag} {mg : Str → Option Value} {h : Heap} (X : K.In h) (G : h.Ns mainGlobals mg)
    {t0 : Tok} (g0 : PySem.W.nsIn K mainGlobals "GREATEST" = some (some (.int 1000000000000000000000000000000 t0)))
    {t1 : Tok} (g1 : PySem.W.nsIn K mainGlobals "LARGEST" = some (some (.int 200 t1)))
    {t2 : Tok} (g2 : PySem.W.nsIn K mainGlobals "MAKERS" = some (some (.str "BCIKS" t2)))
    {t3 : Tok} (g3 : PySem.W.nsIn K mainGlobals "MOST" = some (some (.int 300 t3)))
    {t4 : Tok} (g4 : PySem.W.nsIn K mainGlobals "MOST_NAMES" = some (some (.int 200 t4)))
    (z0 : PySem.W.nsIn K mainGlobals "str" = some none)
    (z1 : PySem.W.nsIn K mainGlobals "zip" = some none)
    (z2 : PySem.W.nsIn K mainGlobals "all" = some none)
    (z3 : PySem.W.nsIn K mainGlobals "range" = some none)
    (z4 : PySem.W.nsIn K mainGlobals "isinstance" = some none)
    (z5 : PySem.W.nsIn K mainGlobals "list" = some none)
    (z6 : PySem.W.nsIn K mainGlobals "tuple" = some none)
    (z7 : PySem.W.nsIn K mainGlobals "int" = some none)
    (z8 : PySem.W.nsIn K mainGlobals "bool" = some none)
    (z9 : PySem.W.nsIn K mainGlobals "len" = some none)
    (z10 : PySem.W.nsIn K mainGlobals "sorted" = some none)
    (z11 : PySem.W.nsIn K mainGlobals "set" = some none)
    (z12 : PySem.W.nsIn K mainGlobals "enumerate" = some none)
    (z13 : PySem.W.nsIn K mainGlobals "sum" = some none)
    (e0 : (Fc.glo "OutError" 0).ok GN K = true) (x0 : (Fc.exc 0).ok GN K = true)
    (e1 : (Fc.glo "BadTerm" 1).ok GN K = true) (x1 : (Fc.exc 1).ok GN K = true)
    (e2 : (Fc.glo "BadNumber" 2).ok GN K = true) (x2 : (Fc.exc 2).ok GN K = true)
    (e3 : (Fc.glo "BadPieces" 3).ok GN K = true) (x3 : (Fc.exc 3).ok GN K = true)
    (e4 : (Fc.glo "TooMany" 4).ok GN K = true) (x4 : (Fc.exc 4).ok GN K = true)
    (s0_0 : (Fc.sub 0 0 true).ok GN K = true) (t0_0 : (Fc.kit 0 0 true).ok GN K = true)
    (s0_1 : (Fc.sub 0 1 false).ok GN K = true) (t0_1 : (Fc.kit 0 1 false).ok GN K = true)
    (s0_2 : (Fc.sub 0 2 false).ok GN K = true) (t0_2 : (Fc.kit 0 2 false).ok GN K = true)
    (s0_3 : (Fc.sub 0 3 false).ok GN K = true) (t0_3 : (Fc.kit 0 3 false).ok GN K = true)
    (s0_4 : (Fc.sub 0 4 false).ok GN K = true) (t0_4 : (Fc.kit 0 4 false).ok GN K = true)
    (s1_0 : (Fc.sub 1 0 true).ok GN K = true) (t1_0 : (Fc.kit 1 0 true).ok GN K = true)
    (s1_1 : (Fc.sub 1 1 true).ok GN K = true) (t1_1 : (Fc.kit 1 1 true).ok GN K = true)
    (s1_2 : (Fc.sub 1 2 false).ok GN K = true) (t1_2 : (Fc.kit 1 2 false).ok GN K = true)
    (s1_3 : (Fc.sub 1 3 false).ok GN K = true) (t1_3 : (Fc.kit 1 3 false).ok GN K = true)
    (s1_4 : (Fc.sub 1 4 false).ok GN K = true) (t1_4 : (Fc.kit 1 4 false).ok GN K = true)
    (s2_0 : (Fc.sub 2 0 true).ok GN K = true) (t2_0 : (Fc.kit 2 0 true).ok GN K = true)
    (s2_1 : (Fc.sub 2 1 false).ok GN K = true) (t2_1 : (Fc.kit 2 1 false).ok GN K = true)
    (s2_2 : (Fc.sub 2 2 true).ok GN K = true) (t2_2 : (Fc.kit 2 2 true).ok GN K = true)
    (s2_3 : (Fc.sub 2 3 false).ok GN K = true) (t2_3 : (Fc.kit 2 3 false).ok GN K = true)
    (s2_4 : (Fc.sub 2 4 false).ok GN K = true) (t2_4 : (Fc.kit 2 4 false).ok GN K = true)
    (s3_0 : (Fc.sub 3 0 true).ok GN K = true) (t3_0 : (Fc.kit 3 0 true).ok GN K = true)
    (s3_1 : (Fc.sub 3 1 false).ok GN K = true) (t3_1 : (Fc.kit 3 1 false).ok GN K = true)
    (s3_2 : (Fc.sub 3 2 false).ok GN K = true) (t3_2 : (Fc.kit 3 2 false).ok GN K = true)
    (s3_3 : (Fc.sub 3 3 true).ok GN K = true) (t3_3 : (Fc.kit 3 3 true).ok GN K = true)
    (s3_4 : (Fc.sub 3 4 false).ok GN K = true) (t3_4 : (Fc.kit 3 4 false).ok GN K = true)
    (s4_0 : (Fc.sub 4 0 true).ok GN K = true) (t4_0 : (Fc.kit 4 0 true).ok GN K = true)
    (s4_1 : (Fc.sub 4 1 false).ok GN K = true) (t4_1 : (Fc.kit 4 1 false).ok GN K = true)
    (s4_2 : (Fc.sub 4 2 false).ok GN K = true) (t4_2 : (Fc.kit 4 2 false).ok GN K = true)
    (s4_3 : (Fc.sub 4 3 false).ok GN K = true) (t4_3 : (Fc.kit 4 3 false).ok GN K = true)
    (s4_4 : (Fc.sub 4 4 true).ok GN K = true) (t4_4 : (Fc.kit 4 4 true).ok GN K = true) : TabOk T K mg w := by
  refine ⟨fun x v e => ?_, fun x hx => ?_, fun x d e => ?_, fun x d e => ?_, fun i hi => ?_, fun n hn => ?_⟩
  · replace e : (if x = "GREATEST" then some (.int 1000000000000000000000000000000) else if x = "LARGEST" then some (.int 200) else if x = "MAKERS" then some (.str "BCIKS") else if x = "MOST" then some (.int 300) else if x = "MOST_NAMES" then some (.int 200) else none : Option V) = some v := e
    refine ite_el e (fun q e => ?_) (fun e => ?_)
    · subst q; cases e; exact ⟨_, PySem.W.mg_of X G g0, ⟨_, rfl⟩⟩
    refine ite_el e (fun q e => ?_) (fun e => ?_)
    · subst q; cases e; exact ⟨_, PySem.W.mg_of X G g1, ⟨_, rfl⟩⟩
    refine ite_el e (fun q e => ?_) (fun e => ?_)
    · subst q; cases e; exact ⟨_, PySem.W.mg_of X G g2, ⟨_, rfl⟩⟩
    refine ite_el e (fun q e => ?_) (fun e => ?_)
    · subst q; cases e; exact ⟨_, PySem.W.mg_of X G g3, ⟨_, rfl⟩⟩
    refine ite_el e (fun q e => ?_) (fun e => ?_)
    · subst q; cases e; exact ⟨_, PySem.W.mg_of X G g4, ⟨_, rfl⟩⟩
    cases e
  · replace hx : x ∈ (["str", "zip", "all", "range", "isinstance", "list", "tuple", "int", "bool", "len", "sorted", "set", "enumerate", "sum"] : List Str) := hx
    rcases List.mem_cons.mp hx with q | hx
    · rw [q]; exact PySem.W.mg_none_of X G z0
    rcases List.mem_cons.mp hx with q | hx
    · rw [q]; exact PySem.W.mg_none_of X G z1
    rcases List.mem_cons.mp hx with q | hx
    · rw [q]; exact PySem.W.mg_none_of X G z2
    rcases List.mem_cons.mp hx with q | hx
    · rw [q]; exact PySem.W.mg_none_of X G z3
    rcases List.mem_cons.mp hx with q | hx
    · rw [q]; exact PySem.W.mg_none_of X G z4
    rcases List.mem_cons.mp hx with q | hx
    · rw [q]; exact PySem.W.mg_none_of X G z5
    rcases List.mem_cons.mp hx with q | hx
    · rw [q]; exact PySem.W.mg_none_of X G z6
    rcases List.mem_cons.mp hx with q | hx
    · rw [q]; exact PySem.W.mg_none_of X G z7
    rcases List.mem_cons.mp hx with q | hx
    · rw [q]; exact PySem.W.mg_none_of X G z8
    rcases List.mem_cons.mp hx with q | hx
    · rw [q]; exact PySem.W.mg_none_of X G z9
    rcases List.mem_cons.mp hx with q | hx
    · rw [q]; exact PySem.W.mg_none_of X G z10
    rcases List.mem_cons.mp hx with q | hx
    · rw [q]; exact PySem.W.mg_none_of X G z11
    rcases List.mem_cons.mp hx with q | hx
    · rw [q]; exact PySem.W.mg_none_of X G z12
    rw [List.mem_singleton.mp hx]; exact PySem.W.mg_none_of X G z13
  · replace e : (none : Option PyData) = some d := e
    cases e
  · replace e : (none : Option (List (Str × PyData))) = some d := e
    cases e
  · cases hi
  · match n, hn with
    | 0, _ => exact ⟨gA GN K 0, glo_of X G e0, exC_of x0, fun m hm D hD => match m, hm with
      | 0, _ => exPair X G e0 hD s0_0 t0_0
      | 1, _ => exPair X G e1 hD s0_1 t0_1
      | 2, _ => exPair X G e2 hD s0_2 t0_2
      | 3, _ => exPair X G e3 hD s0_3 t0_3
      | 4, _ => exPair X G e4 hD s0_4 t0_4
      | m + 5, hm => absurd hm (by show ¬ (m + 5 < 5); omega)⟩
    | 1, _ => exact ⟨gA GN K 1, glo_of X G e1, exC_of x1, fun m hm D hD => match m, hm with
      | 0, _ => exPair X G e0 hD s1_0 t1_0
      | 1, _ => exPair X G e1 hD s1_1 t1_1
      | 2, _ => exPair X G e2 hD s1_2 t1_2
      | 3, _ => exPair X G e3 hD s1_3 t1_3
      | 4, _ => exPair X G e4 hD s1_4 t1_4
      | m + 5, hm => absurd hm (by show ¬ (m + 5 < 5); omega)⟩
    | 2, _ => exact ⟨gA GN K 2, glo_of X G e2, exC_of x2, fun m hm D hD => match m, hm with
      | 0, _ => exPair X G e0 hD s2_0 t2_0
      | 1, _ => exPair X G e1 hD s2_1 t2_1
      | 2, _ => exPair X G e2 hD s2_2 t2_2
      | 3, _ => exPair X G e3 hD s2_3 t2_3
      | 4, _ => exPair X G e4 hD s2_4 t2_4
      | m + 5, hm => absurd hm (by show ¬ (m + 5 < 5); omega)⟩
    | 3, _ => exact ⟨gA GN K 3, glo_of X G e3, exC_of x3, fun m hm D hD => match m, hm with
      | 0, _ => exPair X G e0 hD s3_0 t3_0
      | 1, _ => exPair X G e1 hD s3_1 t3_1
      | 2, _ => exPair X G e2 hD s3_2 t3_2
      | 3, _ => exPair X G e3 hD s3_3 t3_3
      | 4, _ => exPair X G e4 hD s3_4 t3_4
      | m + 5, hm => absurd hm (by show ¬ (m + 5 < 5); omega)⟩
    | 4, _ => exact ⟨gA GN K 4, glo_of X G e4, exC_of x4, fun m hm D hD => match m, hm with
      | 0, _ => exPair X G e0 hD s4_0 t4_0
      | 1, _ => exPair X G e1 hD s4_1 t4_1
      | 2, _ => exPair X G e2 hD s4_2 t4_2
      | 3, _ => exPair X G e3 hD s4_3 t4_3
      | 4, _ => exPair X G e4 hD s4_4 t4_4
      | m + 5, hm => absurd hm (by show ¬ (m + 5 < 5); omega)⟩
    | n + 5, hn => exact absurd hn (by show ¬ (n + 5 < 5); omega)
theorem all_ok {P : Program} {w : World} {K : PySem.W.Frag} {mg : Str → Option Value} {h : Heap} (X : K.In h) (G : h.Ns mainGlobals mg) {base : Heap}
    (d0 : DefAt K "is_between" "is_between" s_is_between ["thing", "least", "most"])
    (d1 : DefAt K "is_maker" "is_maker" s_is_maker ["thing"])
    (d2 : DefAt K "is_name" "is_name" s_is_name ["thing"])
    (d3 : DefAt K "is_term" "is_term" s_is_term ["thing"])
    (d4 : DefAt K "check_term" "check_term" s_check_term ["term"])
    (d5 : DefAt K "is_row" "is_row" s_is_row ["term"])
    (d6 : DefAt K "check_row" "check_row" s_check_row ["row"])
    (d7 : DefAt K "outer_of" "outer_of" s_outer_of ["term", "deep"])
    (d8 : DefAt K "outer" "outer" s_outer ["term"])
    (d9 : DefAt K "pieces_in" "pieces_in" s_pieces_in ["row", "found"])
    (d10 : DefAt K "shared" "shared" s_shared ["row"])
    (d11 : DefAt K "is_piece" "is_piece" s_is_piece ["thing", "at"])
    (d12 : DefAt K "unshared" "unshared" s_unshared ["pieces"])
    (d13 : DefAt K "plain_room" "plain_room" s_plain_room ["leaves", "counts"])
    (d14 : DefAt K "_law_cell_at" "_law_cell_at" s_law_cell_at ["_law_script", "_law_k"])
    (d15 : DefAt K "_law_draw" "_law_draw" s_law_draw ["_law_cell", "_law_k", "_law_most"])
    (d16 : DefAt K "_law_number" "_law_number" s_law_number ["_law_cell", "_law_k", "_law_limit"])
    (d17 : DefAt K "_law_deep" "_law_deep" s_law_deep ["_law_thing"])
    (d18 : DefAt K "_law_spoilt" "_law_spoilt" s_law_spoilt ["_law_found"])
    (d19 : DefAt K "_law_put" "_law_put" s_law_put ["_law_handed", "_law_some"])
    (d20 : DefAt K "_law_door_right" "_law_door_right" s_law_door_right ["_law_ask", "_law_lists", "_law_others"])
    (d21 : DefAt K "_law_two" "_law_two" s_law_two ["_law_found"])
    (d22 : DefAt K "_law_doors_right" "_law_doors_right" s_law_doors_right ["_law_asks", "_law_lists", "_law_others"])
    (d23 : DefAt K "_law_new_right" "_law_new_right" s_law_new_right ["_law_ask", "_law_things"])
    (d24 : DefAt K "law" "law" s_law ["_law_script"])
    (tab : TabOk T K mg w) (clo : CloAll T P w K mg base) (lt : ∀ x ∈ T.lk, (tabAt K mg x).isSome = true) : ∀ (k i : Nat) (args : List W) (r : Res), callAt k i args = some r → Calb T P w K mg base k i args r
  | 0, _, _, _, e => by cases e
  | k + 1, 0, args, r, e => cal_def X G d0 sc_is_between tab (all_ok X G d0 d1 d2 d3 d4 d5 d6 d7 d8 d9 d10 d11 d12 d13 d14 d15 d16 d17 d18 d19 d20 d21 d22 d23 d24 tab clo lt k) clo (ok_is_between _ k) e rfl rfl rfl
  | k + 1, 1, args, r, e => cal_def X G d1 sc_is_maker tab (all_ok X G d0 d1 d2 d3 d4 d5 d6 d7 d8 d9 d10 d11 d12 d13 d14 d15 d16 d17 d18 d19 d20 d21 d22 d23 d24 tab clo lt k) clo (ok_is_maker _ k) e rfl rfl rfl
  | k + 1, 2, args, r, e => cal_def X G d2 sc_is_name tab (all_ok X G d0 d1 d2 d3 d4 d5 d6 d7 d8 d9 d10 d11 d12 d13 d14 d15 d16 d17 d18 d19 d20 d21 d22 d23 d24 tab clo lt k) clo (ok_is_name _ k) e rfl rfl rfl
  | k + 1, 3, args, r, e => cal_def X G d3 sc_is_term tab (all_ok X G d0 d1 d2 d3 d4 d5 d6 d7 d8 d9 d10 d11 d12 d13 d14 d15 d16 d17 d18 d19 d20 d21 d22 d23 d24 tab clo lt k) clo (ok_is_term _ k) e rfl rfl rfl
  | k + 1, 4, args, r, e => cal_defX X G d4 sc_check_term tab (all_ok X G d0 d1 d2 d3 d4 d5 d6 d7 d8 d9 d10 d11 d12 d13 d14 d15 d16 d17 d18 d19 d20 d21 d22 d23 d24 tab clo lt k) clo (ok_check_term _ k) (okx_check_term _ k) e rfl rfl rfl
  | k + 1, 5, args, r, e => cal_def X G d5 sc_is_row tab (all_ok X G d0 d1 d2 d3 d4 d5 d6 d7 d8 d9 d10 d11 d12 d13 d14 d15 d16 d17 d18 d19 d20 d21 d22 d23 d24 tab clo lt k) clo (ok_is_row _ k) e rfl rfl rfl
  | k + 1, 6, args, r, e => cal_defX X G d6 sc_check_row tab (all_ok X G d0 d1 d2 d3 d4 d5 d6 d7 d8 d9 d10 d11 d12 d13 d14 d15 d16 d17 d18 d19 d20 d21 d22 d23 d24 tab clo lt k) clo (ok_check_row _ k) (okx_check_row _ k) e rfl rfl rfl
  | k + 1, 7, args, r, e => cal_def X G d7 sc_outer_of tab (all_ok X G d0 d1 d2 d3 d4 d5 d6 d7 d8 d9 d10 d11 d12 d13 d14 d15 d16 d17 d18 d19 d20 d21 d22 d23 d24 tab clo lt k) clo (ok_outer_of _ k) e rfl rfl rfl
  | k + 1, 8, args, r, e => cal_defX X G d8 sc_outer tab (all_ok X G d0 d1 d2 d3 d4 d5 d6 d7 d8 d9 d10 d11 d12 d13 d14 d15 d16 d17 d18 d19 d20 d21 d22 d23 d24 tab clo lt k) clo (ok_outer _ k) (okx_outer _ k) e rfl rfl rfl
  | k + 1, 9, args, r, e => cal_any X G d9 (fun f fd FN _ => pcs_ok (i := 9) FN sc_pieces_in tab (all_ok X G d0 d1 d2 d3 d4 d5 d6 d7 d8 d9 d10 d11 d12 d13 d14 d15 d16 d17 d18 d19 d20 d21 d22 d23 d24 tab clo lt k) clo rfl rfl rfl rfl rfl (fun h => absurd h (by decide)) rfl (by decide) (.inl rfl) (.inl rfl) (.inl rfl) (.inl rfl) (.inl rfl)
      (okT_val (ok_isi ty_tuple bl_isinstance rfl bl_tuple rfl (ok_var (i := 0) rfl (.inl rfl))))
      (ok_ix (ok_var (i := 0) rfl (.inl rfl)) ok_int)
      (ok_ix (ok_var (i := 0) rfl (.inl rfl)) ok_int)
      (ok_var (i := 0) rfl (.inl rfl))
      (okT_notin (ok_var (i := 3) rfl (.inl rfl)) (ok_var (i := 1) rfl (.inl rfl)))
      (ok_idx (ok_var (i := 1) rfl (.inl rfl)) (ok_var (i := 3) rfl (.inl rfl)))
      (by intro _; rfl) (by intro _; rfl) (by intro _ _; rfl) (by intro _ _; rfl) (by intro _ _; rfl) (by intro _; rfl) rfl e) rfl rfl rfl
  | k + 1, 10, args, r, e => cal_defX X G d10 sc_shared tab (all_ok X G d0 d1 d2 d3 d4 d5 d6 d7 d8 d9 d10 d11 d12 d13 d14 d15 d16 d17 d18 d19 d20 d21 d22 d23 d24 tab clo lt k) clo (ok_shared _ k) (okx_shared _ k) e rfl rfl rfl
  | k + 1, 11, args, r, e => cal_def X G d11 sc_is_piece tab (all_ok X G d0 d1 d2 d3 d4 d5 d6 d7 d8 d9 d10 d11 d12 d13 d14 d15 d16 d17 d18 d19 d20 d21 d22 d23 d24 tab clo lt k) clo (ok_is_piece _ k) e rfl rfl rfl
  | k + 1, 12, args, r, e => cal_defX X G d12 sc_unshared tab (all_ok X G d0 d1 d2 d3 d4 d5 d6 d7 d8 d9 d10 d11 d12 d13 d14 d15 d16 d17 d18 d19 d20 d21 d22 d23 d24 tab clo lt k) clo (ok_unshared _ k) (okx_unshared _ k) e rfl rfl rfl
  | k + 1, 13, args, r, e => cal_defX X G d13 sc_plain_room tab (all_ok X G d0 d1 d2 d3 d4 d5 d6 d7 d8 d9 d10 d11 d12 d13 d14 d15 d16 d17 d18 d19 d20 d21 d22 d23 d24 tab clo lt k) clo (ok_plain_room _ k) (okx_plain_room _ k) e rfl rfl rfl
  | k + 1, 14, args, r, e => cal_def X G d14 sc_law_cell_at tab (all_ok X G d0 d1 d2 d3 d4 d5 d6 d7 d8 d9 d10 d11 d12 d13 d14 d15 d16 d17 d18 d19 d20 d21 d22 d23 d24 tab clo lt k) clo (ok_law_cell_at _ k) e rfl rfl rfl
  | k + 1, 15, args, r, e => cal_def X G d15 sc_law_draw tab (all_ok X G d0 d1 d2 d3 d4 d5 d6 d7 d8 d9 d10 d11 d12 d13 d14 d15 d16 d17 d18 d19 d20 d21 d22 d23 d24 tab clo lt k) clo (ok_law_draw _ k) e rfl rfl rfl
  | k + 1, 16, args, r, e => cal_def X G d16 sc_law_number tab (all_ok X G d0 d1 d2 d3 d4 d5 d6 d7 d8 d9 d10 d11 d12 d13 d14 d15 d16 d17 d18 d19 d20 d21 d22 d23 d24 tab clo lt k) clo (ok_law_number _ k) e rfl rfl rfl
  | k + 1, 17, args, r, e => cal_def X G d17 sc_law_deep tab (all_ok X G d0 d1 d2 d3 d4 d5 d6 d7 d8 d9 d10 d11 d12 d13 d14 d15 d16 d17 d18 d19 d20 d21 d22 d23 d24 tab clo lt k) clo (ok_law_deep _ k) e rfl rfl rfl
  | k + 1, 18, args, r, e => cal_def X G d18 sc_law_spoilt tab (all_ok X G d0 d1 d2 d3 d4 d5 d6 d7 d8 d9 d10 d11 d12 d13 d14 d15 d16 d17 d18 d19 d20 d21 d22 d23 d24 tab clo lt k) clo (ok_law_spoilt _ k) e rfl rfl rfl
  | k + 1, 19, args, r, e => cal_def X G d19 sc_law_put tab (all_ok X G d0 d1 d2 d3 d4 d5 d6 d7 d8 d9 d10 d11 d12 d13 d14 d15 d16 d17 d18 d19 d20 d21 d22 d23 d24 tab clo lt k) clo (ok_law_put _ k) e rfl rfl rfl
  | k + 1, 20, args, r, e => cal_def X G d20 sc_law_door_right tab (all_ok X G d0 d1 d2 d3 d4 d5 d6 d7 d8 d9 d10 d11 d12 d13 d14 d15 d16 d17 d18 d19 d20 d21 d22 d23 d24 tab clo lt k) clo (ok_law_door_right _ k) e rfl rfl rfl
  | k + 1, 21, args, r, e => cal_def X G d21 sc_law_two tab (all_ok X G d0 d1 d2 d3 d4 d5 d6 d7 d8 d9 d10 d11 d12 d13 d14 d15 d16 d17 d18 d19 d20 d21 d22 d23 d24 tab clo lt k) clo (ok_law_two _ k) e rfl rfl rfl
  | k + 1, 22, args, r, e => cal_def X G d22 sc_law_doors_right tab (all_ok X G d0 d1 d2 d3 d4 d5 d6 d7 d8 d9 d10 d11 d12 d13 d14 d15 d16 d17 d18 d19 d20 d21 d22 d23 d24 tab clo lt k) clo (ok_law_doors_right _ k) e rfl rfl rfl
  | k + 1, 23, args, r, e => cal_def X G d23 sc_law_new_right tab (all_ok X G d0 d1 d2 d3 d4 d5 d6 d7 d8 d9 d10 d11 d12 d13 d14 d15 d16 d17 d18 d19 d20 d21 d22 d23 d24 tab clo lt k) clo (ok_law_new_right _ k) e rfl rfl rfl
  | k + 1, 24, args, r, e => by cases e
  | k + 1, n + 25, args, r, e => by cases e
abbrev LK : Nat := 230
def Goal (P : Program) (w : World) (K : PySem.W.Frag) (mg : Str → Option Value) (fa : Addr) : Prop := ∃ fd : FuncData, (∀ (s : Shared) (u : Value), BindsTo s fd ⟨[u], []⟩ [("_law_script", u)]) ∧ ∀ base : Heap, K.In base → base.Ns mainGlobals mg → (∀ p ∈ lkc T K mg, LamX.TabB base mg p.1 p.2) → RunG P w K mg base (LK + 1) fa fd ["_law_script"] (spLaw T K mg)
structure Kn (P : Program) (w : World) (K : PySem.W.Frag) (mg : Str → Option Value) (h : Heap) (fa : Addr) : Prop where
  X : K.In h
  G : h.Ns mainGlobals mg
  hfa : mg "law" = some (.ref fa)
  tab : TabOk T K mg w
  clo : ∀ base : Heap, (∀ p ∈ lkc T K mg, LamX.TabB base mg p.1 p.2) → CloAll T P w K mg base
  cal : ∀ base : Heap, (∀ p ∈ lkc T K mg, LamX.TabB base mg p.1 p.2) → ∀ (k i : Nat) (args : List W) (r : Res), callAt k i args = some r → Calb T P w K mg base k i args r
  lt : ∀ x ∈ T.lk, (tabAt K mg x).isSome = true
  d_law_deep : DefAt K "_law_deep" "_law_deep" s_law_deep ["_law_thing"]
  d_law_spoilt : DefAt K "_law_spoilt" "_law_spoilt" s_law_spoilt ["_law_found"]
  d_law_put : DefAt K "_law_put" "_law_put" s_law_put ["_law_handed", "_law_some"]
  d_law_door_right : DefAt K "_law_door_right" "_law_door_right" s_law_door_right ["_law_ask", "_law_lists", "_law_others"]
  d_law_two : DefAt K "_law_two" "_law_two" s_law_two ["_law_found"]
  d_law_doors_right : DefAt K "_law_doors_right" "_law_doors_right" s_law_doors_right ["_law_asks", "_law_lists", "_law_others"]
  d_law_new_right : DefAt K "_law_new_right" "_law_new_right" s_law_new_right ["_law_ask", "_law_things"]
  d_law : DefAt K "law" "law" s_law ["_law_script"]
theorem the_law {P : Program} {w : World} {K : PySem.W.Frag} {mg : Str → Option Value} {h : Heap} (X : K.In h) (G : h.Ns mainGlobals mg) {fa : Addr} (hfa : mg "law" = some (.ref fa))
    {t0 : Tok} (g0 : PySem.W.nsIn K mainGlobals "GREATEST" = some (some (.int 1000000000000000000000000000000 t0)))
    {t1 : Tok} (g1 : PySem.W.nsIn K mainGlobals "LARGEST" = some (some (.int 200 t1)))
    {t2 : Tok} (g2 : PySem.W.nsIn K mainGlobals "MAKERS" = some (some (.str "BCIKS" t2)))
    {t3 : Tok} (g3 : PySem.W.nsIn K mainGlobals "MOST" = some (some (.int 300 t3)))
    {t4 : Tok} (g4 : PySem.W.nsIn K mainGlobals "MOST_NAMES" = some (some (.int 200 t4)))
    (z0 : PySem.W.nsIn K mainGlobals "str" = some none)
    (z1 : PySem.W.nsIn K mainGlobals "zip" = some none)
    (z2 : PySem.W.nsIn K mainGlobals "all" = some none)
    (z3 : PySem.W.nsIn K mainGlobals "range" = some none)
    (z4 : PySem.W.nsIn K mainGlobals "isinstance" = some none)
    (z5 : PySem.W.nsIn K mainGlobals "list" = some none)
    (z6 : PySem.W.nsIn K mainGlobals "tuple" = some none)
    (z7 : PySem.W.nsIn K mainGlobals "int" = some none)
    (z8 : PySem.W.nsIn K mainGlobals "bool" = some none)
    (z9 : PySem.W.nsIn K mainGlobals "len" = some none)
    (z10 : PySem.W.nsIn K mainGlobals "sorted" = some none)
    (z11 : PySem.W.nsIn K mainGlobals "set" = some none)
    (z12 : PySem.W.nsIn K mainGlobals "enumerate" = some none)
    (z13 : PySem.W.nsIn K mainGlobals "sum" = some none)
    (e0 : (Fc.glo "OutError" 0).ok GN K = true) (x0 : (Fc.exc 0).ok GN K = true)
    (e1 : (Fc.glo "BadTerm" 1).ok GN K = true) (x1 : (Fc.exc 1).ok GN K = true)
    (e2 : (Fc.glo "BadNumber" 2).ok GN K = true) (x2 : (Fc.exc 2).ok GN K = true)
    (e3 : (Fc.glo "BadPieces" 3).ok GN K = true) (x3 : (Fc.exc 3).ok GN K = true)
    (e4 : (Fc.glo "TooMany" 4).ok GN K = true) (x4 : (Fc.exc 4).ok GN K = true)
    (s0_0 : (Fc.sub 0 0 true).ok GN K = true) (t0_0 : (Fc.kit 0 0 true).ok GN K = true)
    (s0_1 : (Fc.sub 0 1 false).ok GN K = true) (t0_1 : (Fc.kit 0 1 false).ok GN K = true)
    (s0_2 : (Fc.sub 0 2 false).ok GN K = true) (t0_2 : (Fc.kit 0 2 false).ok GN K = true)
    (s0_3 : (Fc.sub 0 3 false).ok GN K = true) (t0_3 : (Fc.kit 0 3 false).ok GN K = true)
    (s0_4 : (Fc.sub 0 4 false).ok GN K = true) (t0_4 : (Fc.kit 0 4 false).ok GN K = true)
    (s1_0 : (Fc.sub 1 0 true).ok GN K = true) (t1_0 : (Fc.kit 1 0 true).ok GN K = true)
    (s1_1 : (Fc.sub 1 1 true).ok GN K = true) (t1_1 : (Fc.kit 1 1 true).ok GN K = true)
    (s1_2 : (Fc.sub 1 2 false).ok GN K = true) (t1_2 : (Fc.kit 1 2 false).ok GN K = true)
    (s1_3 : (Fc.sub 1 3 false).ok GN K = true) (t1_3 : (Fc.kit 1 3 false).ok GN K = true)
    (s1_4 : (Fc.sub 1 4 false).ok GN K = true) (t1_4 : (Fc.kit 1 4 false).ok GN K = true)
    (s2_0 : (Fc.sub 2 0 true).ok GN K = true) (t2_0 : (Fc.kit 2 0 true).ok GN K = true)
    (s2_1 : (Fc.sub 2 1 false).ok GN K = true) (t2_1 : (Fc.kit 2 1 false).ok GN K = true)
    (s2_2 : (Fc.sub 2 2 true).ok GN K = true) (t2_2 : (Fc.kit 2 2 true).ok GN K = true)
    (s2_3 : (Fc.sub 2 3 false).ok GN K = true) (t2_3 : (Fc.kit 2 3 false).ok GN K = true)
    (s2_4 : (Fc.sub 2 4 false).ok GN K = true) (t2_4 : (Fc.kit 2 4 false).ok GN K = true)
    (s3_0 : (Fc.sub 3 0 true).ok GN K = true) (t3_0 : (Fc.kit 3 0 true).ok GN K = true)
    (s3_1 : (Fc.sub 3 1 false).ok GN K = true) (t3_1 : (Fc.kit 3 1 false).ok GN K = true)
    (s3_2 : (Fc.sub 3 2 false).ok GN K = true) (t3_2 : (Fc.kit 3 2 false).ok GN K = true)
    (s3_3 : (Fc.sub 3 3 true).ok GN K = true) (t3_3 : (Fc.kit 3 3 true).ok GN K = true)
    (s3_4 : (Fc.sub 3 4 false).ok GN K = true) (t3_4 : (Fc.kit 3 4 false).ok GN K = true)
    (s4_0 : (Fc.sub 4 0 true).ok GN K = true) (t4_0 : (Fc.kit 4 0 true).ok GN K = true)
    (s4_1 : (Fc.sub 4 1 false).ok GN K = true) (t4_1 : (Fc.kit 4 1 false).ok GN K = true)
    (s4_2 : (Fc.sub 4 2 false).ok GN K = true) (t4_2 : (Fc.kit 4 2 false).ok GN K = true)
    (s4_3 : (Fc.sub 4 3 false).ok GN K = true) (t4_3 : (Fc.kit 4 3 false).ok GN K = true)
    (s4_4 : (Fc.sub 4 4 true).ok GN K = true) (t4_4 : (Fc.kit 4 4 true).ok GN K = true)
    
    (d0 : DefAt K "is_between" "is_between" s_is_between ["thing", "least", "most"])
    (d1 : DefAt K "is_maker" "is_maker" s_is_maker ["thing"])
    (d2 : DefAt K "is_name" "is_name" s_is_name ["thing"])
    (d3 : DefAt K "is_term" "is_term" s_is_term ["thing"])
    (d4 : DefAt K "check_term" "check_term" s_check_term ["term"])
    (d5 : DefAt K "is_row" "is_row" s_is_row ["term"])
    (d6 : DefAt K "check_row" "check_row" s_check_row ["row"])
    (d7 : DefAt K "outer_of" "outer_of" s_outer_of ["term", "deep"])
    (d8 : DefAt K "outer" "outer" s_outer ["term"])
    (d9 : DefAt K "pieces_in" "pieces_in" s_pieces_in ["row", "found"])
    (d10 : DefAt K "shared" "shared" s_shared ["row"])
    (d11 : DefAt K "is_piece" "is_piece" s_is_piece ["thing", "at"])
    (d12 : DefAt K "unshared" "unshared" s_unshared ["pieces"])
    (d13 : DefAt K "plain_room" "plain_room" s_plain_room ["leaves", "counts"])
    (d14 : DefAt K "_law_cell_at" "_law_cell_at" s_law_cell_at ["_law_script", "_law_k"])
    (d15 : DefAt K "_law_draw" "_law_draw" s_law_draw ["_law_cell", "_law_k", "_law_most"])
    (d16 : DefAt K "_law_number" "_law_number" s_law_number ["_law_cell", "_law_k", "_law_limit"])
    (d17 : DefAt K "_law_deep" "_law_deep" s_law_deep ["_law_thing"])
    (d18 : DefAt K "_law_spoilt" "_law_spoilt" s_law_spoilt ["_law_found"])
    (d19 : DefAt K "_law_put" "_law_put" s_law_put ["_law_handed", "_law_some"])
    (d20 : DefAt K "_law_door_right" "_law_door_right" s_law_door_right ["_law_ask", "_law_lists", "_law_others"])
    (d21 : DefAt K "_law_two" "_law_two" s_law_two ["_law_found"])
    (d22 : DefAt K "_law_doors_right" "_law_doors_right" s_law_doors_right ["_law_asks", "_law_lists", "_law_others"])
    (d23 : DefAt K "_law_new_right" "_law_new_right" s_law_new_right ["_law_ask", "_law_things"])
    (d24 : DefAt K "law" "law" s_law ["_law_script"])
    (lt : ∀ x ∈ T.lk, (tabAt K mg x).isSome = true)
    (main : ∀ {P : Program} {w : World} {K : PySem.W.Frag} {mg : Str → Option Value} {h : Heap} {fa : Addr}, Kn P w K mg h fa → Goal P w K mg fa) : Goal P w K mg fa := by
  have tab := tab_ok (w := w) X G g0 g1 g2 g3 g4 z0 z1 z2 z3 z4 z5 z6 z7 z8 z9 z10 z11 z12 z13 e0 x0 e1 x1 e2 x2 e3 x3 e4 x4 s0_0 t0_0 s0_1 t0_1 s0_2 t0_2 s0_3 t0_3 s0_4 t0_4 s1_0 t1_0 s1_1 t1_1 s1_2 t1_2 s1_3 t1_3 s1_4 t1_4 s2_0 t2_0 s2_1 t2_1 s2_2 t2_2 s2_3 t2_3 s2_4 t2_4 s3_0 t3_0 s3_1 t3_1 s3_2 t3_2 s3_3 t3_3 s3_4 t3_4 s4_0 t4_0 s4_1 t4_1 s4_2 t4_2 s4_3 t4_3 s4_4 t4_4
  have cl : ∀ base : Heap, ∀ i, i < T.nc → ClOk T P w K mg base i := fun base i hi => absurd hi (Nat.not_lt_zero _)
  have clo : ∀ base : Heap, (∀ p ∈ lkc T K mg, LamX.TabB base mg p.1 p.2) → CloAll T P w K mg base := fun base TB => ⟨cl base, fun y hy c P e => TB _ (lkc_mem hy e), fun x bs e => by cases e⟩
  exact main ⟨X, G, hfa, tab, clo, fun base TB => all_ok X G d0 d1 d2 d3 d4 d5 d6 d7 d8 d9 d10 d11 d12 d13 d14 d15 d16 d17 d18 d19 d20 d21 d22 d23 d24 tab (clo base TB) lt, lt, d17, d18, d19, d20, d21, d22, d23, d24⟩
end R
namespace R
open PySem L2 Nm
/-- the script -/
def scr (ns : List Int) : W := .d (.list (ns.map .int))
def okScr (ns : List Int) : Prop := ns.length ≤ 63 ∧ ∀ z ∈ ns, Builtin.Int.intBits z ≤ 1048576
theorem atI_map (ns : List Int) (i : Int) (h0 : 0 ≤ i) (h1 : i < ns.length) : ∃ z ∈ ns, atI (ns.map PyData.int) i = some (.int z) := by
  have hl : i.toNat < ns.length := by omega
  refine ⟨ns[i.toNat], List.getElem_mem hl, ?_⟩
  unfold atI ixN
  rw [List.length_map, if_pos h0, if_pos h1]
  show (ns.map PyData.int)[i.toNat]? = _
  rw [List.getElem?_map, List.getElem?_eq_getElem hl]
  rfl
theorem cell_ok {ns : List Int} (hs : okScr ns) (k : Nat) (hk : 1 ≤ k) (i : Int) (hi : 0 ≤ i) : ∃ z : Int, Builtin.Int.intBits z ≤ 1048576 ∧ callAt k 14 [scr ns, .d (.int i)] = some (.w (.d (.int z))) := by
  obtain ⟨k, rfl⟩ : ∃ j, k = j + 1 := ⟨k - 1, by omega⟩
  rw [c_law_cell_at]
  by_cases h : i < ns.length
  · obtain ⟨z, hz, e⟩ := atI_map ns i hi h
    refine ⟨z, hs.2 z hz, ?_⟩
    simp only [runD, rho0, sSeq, sIf, sRet, sRetL, sRetO, sAsg, sAsgL, sAsgO, sAug, sPar, sNil, sNever, sBreak, sCont, cVar, rd, cD, cOp1, cOp2, cT, wB, qAnd, qOr, qNot, cAnd, cOr, cNot, cIf, aNil, aCons, wDs, cTup, lLst, cL, wII, wIC, wAdd, wLen, wIsi, isTup, isStr, isInt, isBool, isLst, cCall, lCall, val_w, val_fl, W.im, imm, imms, noOwn, wIx_t0, wIx_t1, wEq_int, wNe_int, List.length_cons, List.length_nil, List.map_cons, List.map_nil, List.replicate_succ, List.replicate_zero, List.cons_append, List.nil_append, List.append_nil, List.getElem?_cons_zero, List.getElem?_cons_succ, List.set_cons_zero, List.set_cons_succ, List.all_cons, List.all_nil, ↓reduceIte, Bool.or_true, Bool.true_or, Bool.or_false, Bool.false_or, Bool.and_true, Bool.true_and, Bool.and_false, Bool.false_and, Bool.not_true, Bool.not_false, if_true, if_false, Bool.false_eq_true, Nat.zero_add, Nat.add_zero, Nat.reduceAdd, Nat.reduceSub, Nat.reduceMul, Nat.reduceLeDiff, Nat.reduceEqDiff, Int.reduceAdd, Int.reduceSub, Int.reduceNeg, Int.reduceMul, Int.reduceLT, Int.reduceLE, Int.reduceEq, decide_true, decide_false, and_self, true_and, and_true, and_false, false_and, or_true, true_or, or_false, false_or, not_true_eq_false, not_false_eq_true, imm_d, cAtt_eq, cMake_eq, cMeth, vD, vI, vB, vS, vT, eq_self, wEq_fn, wNe_fn, wIsN, gNs, setNs, sUnp, sExpr, Int.cast_ofNat_Int, cMethD, free_w, free_none, free_own, free_od, orX_some, m_law_cell_at, scr, List.length_map, h, decide_true, wIx, e]
  · refine ⟨0, by decide, ?_⟩
    simp only [runD, rho0, sSeq, sIf, sRet, sRetL, sRetO, sAsg, sAsgL, sAsgO, sAug, sPar, sNil, sNever, sBreak, sCont, cVar, rd, cD, cOp1, cOp2, cT, wB, qAnd, qOr, qNot, cAnd, cOr, cNot, cIf, aNil, aCons, wDs, cTup, lLst, cL, wII, wIC, wAdd, wLen, wIsi, isTup, isStr, isInt, isBool, isLst, cCall, lCall, val_w, val_fl, W.im, imm, imms, noOwn, wIx_t0, wIx_t1, wEq_int, wNe_int, List.length_cons, List.length_nil, List.map_cons, List.map_nil, List.replicate_succ, List.replicate_zero, List.cons_append, List.nil_append, List.append_nil, List.getElem?_cons_zero, List.getElem?_cons_succ, List.set_cons_zero, List.set_cons_succ, List.all_cons, List.all_nil, ↓reduceIte, Bool.or_true, Bool.true_or, Bool.or_false, Bool.false_or, Bool.and_true, Bool.true_and, Bool.and_false, Bool.false_and, Bool.not_true, Bool.not_false, if_true, if_false, Bool.false_eq_true, Nat.zero_add, Nat.add_zero, Nat.reduceAdd, Nat.reduceSub, Nat.reduceMul, Nat.reduceLeDiff, Nat.reduceEqDiff, Int.reduceAdd, Int.reduceSub, Int.reduceNeg, Int.reduceMul, Int.reduceLT, Int.reduceLE, Int.reduceEq, decide_true, decide_false, and_self, true_and, and_true, and_false, false_and, or_true, true_or, or_false, false_or, not_true_eq_false, not_false_eq_true, imm_d, cAtt_eq, cMake_eq, cMeth, vD, vI, vB, vS, vT, eq_self, wEq_fn, wNe_fn, wIsN, gNs, setNs, sUnp, sExpr, Int.cast_ofNat_Int, cMethD, free_w, free_none, free_own, free_od, orX_some, m_law_cell_at, scr, List.length_map, h, decide_false]
theorem mulR (i : Int) {j : Int} (h : j.natAbs < 2 ^ 64) : MulC i j := .inr (.inl (bits_lt.mpr h))
theorem mulL {i : Int} (j : Int) (h : i.natAbs < 2 ^ 64) : MulC i j := .inl (bits_lt.mpr h)
def prs : List Int := [1000003, 1000033, 1000037, 1000039, 1000081, 1000099, 1000117, 1000121, 1000133, 1000151, 1000159, 1000171, 1000183, 1000187, 1000193, 1000199]
theorem prs_at (j : Int) : ∃ p : Int, 0 < p ∧ atI [PyData.int 1000003, .int 1000033, .int 1000037, .int 1000039, .int 1000081, .int 1000099, .int 1000117, .int 1000121, .int 1000133, .int 1000151, .int 1000159, .int 1000171, .int 1000183, .int 1000187, .int 1000193, .int 1000199] (j % 16) = some (.int p) := by
  obtain ⟨z, hz, e⟩ := atI_map prs (j % 16) (by omega) (by simp only [prs, List.length_cons, List.length_nil]; omega)
  refine ⟨z, ?_, e⟩
  have : ∀ z ∈ prs, 0 < z := by decide
  exact this z hz
theorem draw_ok (k : Nat) (hk : 1 ≤ k) (cell i most : Int) (hi : i.natAbs < 2 ^ 64) (hm : 0 < most) : ∃ z : Int, 0 ≤ z ∧ z < most ∧ callAt k 15 [.d (.int cell), .d (.int i), .d (.int most)] = some (.w (.d (.int z))) := by
  obtain ⟨k, rfl⟩ : ∃ j, k = j + 1 := ⟨k - 1, by omega⟩
  obtain ⟨p, hp, e⟩ := prs_at i
  refine ⟨(cell * 48271 + i * 69621) % p % most, Int.emod_nonneg _ (by omega), Int.emod_lt_of_pos _ hm, ?_⟩
  rw [c_law_draw]
  have h1 : MulC cell 48271 := mulR _ (by decide)
  have h2 : MulC i 69621 := mulR _ (by decide)
  have h3 : (0 : Int) < 16 := by decide
  simp only [runD, rho0, sSeq, sIf, sRet, sRetL, sRetO, sAsg, sAsgL, sAsgO, sAug, sPar, sNil, sNever, sBreak, sCont, cVar, rd, cD, cOp1, cOp2, cT, wB, qAnd, qOr, qNot, cAnd, cOr, cNot, cIf, aNil, aCons, wDs, cTup, lLst, cL, wII, wIC, wAdd, wLen, wIsi, isTup, isStr, isInt, isBool, isLst, cCall, lCall, val_w, val_fl, W.im, imm, imms, noOwn, wIx_t0, wIx_t1, wEq_int, wNe_int, List.length_cons, List.length_nil, List.map_cons, List.map_nil, List.replicate_succ, List.replicate_zero, List.cons_append, List.nil_append, List.append_nil, List.getElem?_cons_zero, List.getElem?_cons_succ, List.set_cons_zero, List.set_cons_succ, List.all_cons, List.all_nil, ↓reduceIte, Bool.or_true, Bool.true_or, Bool.or_false, Bool.false_or, Bool.and_true, Bool.true_and, Bool.and_false, Bool.false_and, Bool.not_true, Bool.not_false, if_true, if_false, Bool.false_eq_true, Nat.zero_add, Nat.add_zero, Nat.reduceAdd, Nat.reduceSub, Nat.reduceMul, Nat.reduceLeDiff, Nat.reduceEqDiff, Int.reduceAdd, Int.reduceSub, Int.reduceNeg, Int.reduceMul, Int.reduceLT, Int.reduceLE, Int.reduceEq, decide_true, decide_false, and_self, true_and, and_true, and_false, false_and, or_true, true_or, or_false, false_or, not_true_eq_false, not_false_eq_true, imm_d, cAtt_eq, cMake_eq, cMeth, vD, vI, vB, vS, vT, eq_self, wEq_fn, wNe_fn, wIsN, gNs, setNs, sUnp, sExpr, Int.cast_ofNat_Int, cMethD, free_w, free_none, free_own, free_od, orX_some, m_law_draw, h1, h2, h3, wIx, e, hp, hm]
theorem sevens_at (j : Int) : ∃ p : Int, 0 < p ∧ p < 1073741824 ∧ atI [PyData.int 1, .int 7, .int 49, .int 343, .int 2401] (j % 5) = some (.int p) := by
  obtain ⟨z, hz, e⟩ := atI_map [1, 7, 49, 343, 2401] (j % 5) (by omega) (by simp only [List.length_cons, List.length_nil]; omega)
  refine ⟨z, ?_, ?_, e⟩
  · have : ∀ z ∈ [1, 7, 49, 343, (2401 : Int)], 0 < z := by decide
    exact this z hz
  · have : ∀ z ∈ [1, 7, 49, 343, (2401 : Int)], z < 1073741824 := by decide
    exact this z hz
theorem number_ok (k : Nat) (hk : 2 ≤ k) (cell i lim : Int) (h0 : 0 ≤ i) (hi : i ≤ 1000) (hm : 0 < lim) : ∃ z : Int, 0 ≤ z ∧ z < lim ∧ callAt k 16 [.d (.int cell), .d (.int i), .d (.int lim)] = some (.w (.d (.int z))) := by
  obtain ⟨k, rfl⟩ : ∃ j, k = j + 1 := ⟨k - 1, by omega⟩
  rw [c_law_number]
  have p1 : (0 : Int) ≤ 18 ∧ (18 : Int) ≤ 1000000 ∧ (10 : Int).natAbs < 2 ^ 64 := by decide
  have p2 : (0 : Int) < 5 := by decide
  have p3 : (0 : Int) < 9 := by decide
  have p4 : MulC 977 i := mulL _ (by decide)
  have p5 : MulC 31 i := mulL _ (by decide)
  have p7 : (0 : Int) < 1000003 := by decide
  obtain ⟨p, hp, hp2, e⟩ := sevens_at i
  by_cases h : 10 ^ Int.toNat 18 ≤ cell
  · refine ⟨(cell - 10 ^ Int.toNat 18) / p % lim, Int.emod_nonneg _ (by omega), Int.emod_lt_of_pos _ hm, ?_⟩
    simp only [runD, rho0, sSeq, sIf, sRet, sRetL, sRetO, sAsg, sAsgL, sAsgO, sAug, sPar, sNil, sNever, sBreak, sCont, cVar, rd, cD, cOp1, cOp2, cT, wB, qAnd, qOr, qNot, cAnd, cOr, cNot, cIf, aNil, aCons, wDs, cTup, lLst, cL, wII, wIC, wAdd, wLen, wIsi, isTup, isStr, isInt, isBool, isLst, cCall, lCall, val_w, val_fl, W.im, imm, imms, noOwn, wIx_t0, wIx_t1, wEq_int, wNe_int, List.length_cons, List.length_nil, List.map_cons, List.map_nil, List.replicate_succ, List.replicate_zero, List.cons_append, List.nil_append, List.append_nil, List.getElem?_cons_zero, List.getElem?_cons_succ, List.set_cons_zero, List.set_cons_succ, List.all_cons, List.all_nil, ↓reduceIte, Bool.or_true, Bool.true_or, Bool.or_false, Bool.false_or, Bool.and_true, Bool.true_and, Bool.and_false, Bool.false_and, Bool.not_true, Bool.not_false, if_true, if_false, Bool.false_eq_true, Nat.zero_add, Nat.add_zero, Nat.reduceAdd, Nat.reduceSub, Nat.reduceMul, Nat.reduceLeDiff, Nat.reduceEqDiff, Int.reduceAdd, Int.reduceSub, Int.reduceNeg, Int.reduceMul, Int.reduceLT, Int.reduceLE, Int.reduceEq, decide_true, decide_false, and_self, true_and, and_true, and_false, false_and, or_true, true_or, or_false, false_or, not_true_eq_false, not_false_eq_true, imm_d, cAtt_eq, cMake_eq, cMeth, vD, vI, vB, vS, vT, eq_self, wEq_fn, wNe_fn, wIsN, gNs, setNs, sUnp, sExpr, Int.cast_ofNat_Int, cMethD, free_w, free_none, free_own, free_od, orX_some, m_law_number, p1, h, decide_true, wIx, e, p2, hp, hp2, hm, and_self]
  · have m0 := Int.emod_nonneg cell (show (1000003 : Int) ≠ 0 by decide)
    have m1 := Int.emod_lt_of_pos cell p7
    have p6 : MulC (cell % 1000003 + 977 * i) (cell % 1000003 + 31 * i + 5) := mulR _ (by omega)
    obtain ⟨z, h1, h2, h3⟩ := draw_ok k (by omega) ((cell % 1000003 + 977 * i) * (cell % 1000003 + 31 * i + 5)) (i % 9 + 1) 999983 (by omega) (by decide)
    refine ⟨z % lim, Int.emod_nonneg _ (by omega), Int.emod_lt_of_pos _ hm, ?_⟩
    simp only [runD, rho0, sSeq, sIf, sRet, sRetL, sRetO, sAsg, sAsgL, sAsgO, sAug, sPar, sNil, sNever, sBreak, sCont, cVar, rd, cD, cOp1, cOp2, cT, wB, qAnd, qOr, qNot, cAnd, cOr, cNot, cIf, aNil, aCons, wDs, cTup, lLst, cL, wII, wIC, wAdd, wLen, wIsi, isTup, isStr, isInt, isBool, isLst, cCall, lCall, val_w, val_fl, W.im, imm, imms, noOwn, wIx_t0, wIx_t1, wEq_int, wNe_int, List.length_cons, List.length_nil, List.map_cons, List.map_nil, List.replicate_succ, List.replicate_zero, List.cons_append, List.nil_append, List.append_nil, List.getElem?_cons_zero, List.getElem?_cons_succ, List.set_cons_zero, List.set_cons_succ, List.all_cons, List.all_nil, ↓reduceIte, Bool.or_true, Bool.true_or, Bool.or_false, Bool.false_or, Bool.and_true, Bool.true_and, Bool.and_false, Bool.false_and, Bool.not_true, Bool.not_false, if_true, if_false, Bool.false_eq_true, Nat.zero_add, Nat.add_zero, Nat.reduceAdd, Nat.reduceSub, Nat.reduceMul, Nat.reduceLeDiff, Nat.reduceEqDiff, Int.reduceAdd, Int.reduceSub, Int.reduceNeg, Int.reduceMul, Int.reduceLT, Int.reduceLE, Int.reduceEq, decide_true, decide_false, and_self, true_and, and_true, and_false, false_and, or_true, true_or, or_false, false_or, not_true_eq_false, not_false_eq_true, imm_d, cAtt_eq, cMake_eq, cMeth, vD, vI, vB, vS, vT, eq_self, wEq_fn, wNe_fn, wIsN, gNs, setNs, sUnp, sExpr, Int.cast_ofNat_Int, cMethD, free_w, free_none, free_own, free_od, orX_some, m_law_number, p1, h, decide_false, p3, p4, p5, p6, p7, h3, hm]

end R
namespace R
open PySem L2 Nm
theorem call_of {F : Fs} {i : Nat} {fs : Rho → Option (List W)} {r : Rho} {ws : List W} {v : W} (e : fs r = some ws) (h : F i ws = some (.w v)) : cCall F i fs r = some v := by
  unfold cCall; rw [e]; simp only [h]; rfl
theorem ct_of {f : Rho → Option W} {r : Rho} {b : Bool} (e : f r = some (.d (.bool b))) : cT f r = some b := by
  unfold cT; rw [e]; simp only [wB]
theorem op_of {g : W → W → Option W} {f h : Rho → Option W} {r : Rho} {x y z : W} (e1 : f r = some x) (e2 : h r = some y) (e3 : g x y = some z) : cOp2 g f h r = some z := by
  unfold cOp2; rw [e1, e2]; exact e3
theorem or_ff {p q : Rho → Option Bool} {r : Rho} (e1 : p r = some false) (e2 : q r = some false) : qOr p q r = some false := by
  unfold qOr; rw [e1]; simp only []; exact e2
theorem not_t {p : Rho → Option Bool} {r : Rho} (e1 : p r = some true) : qNot p r = some false := by
  unfold qNot; rw [e1]; rfl
theorem lcall_of {F : Fs} {i : Nat} {fs : Rho → Option (List W)} {r : Rho} {ws : List W} {xs : List PyData} (e : fs r = some ws) (h : F i ws = some (.fl xs)) : cL (lCall F i fs) r = some (.d (.list xs)) := by
  unfold cL lCall; rw [e]; simp only [h]
theorem si_f {q : Rho → Option Bool} {g h : CS} {r : Rho} (e : q r = some false) : sIf q g h r = h r := by unfold sIf; rw [e]
mutual
/-- no dict in it -/
def ndt : PyData → Bool
  | .list ds => ndts ds
  | .tuple ds => ndts ds
  | .dict _ => false
  | _ => true
def ndts : List PyData → Bool
  | [] => true
  | d :: ds => ndt d && ndts ds
end
mutual
theorem eqv_refl : ∀ d : PyData, ndt d = true → PyData.eqv d d = true
  | .none, _ => by simp only [PyData.eqv]
  | .bool b, _ => by simp only [PyData.eqv]; simp
  | .int i, _ => by simp only [PyData.eqv]; simp
  | .str s, _ => by simp only [PyData.eqv]; simp
  | .list ds, h => by simp only [PyData.eqv]; exact eqvs_refl ds h
  | .tuple ds, h => by simp only [PyData.eqv]; exact eqvs_refl ds h
  | .dict _, h => by cases h
theorem eqvs_refl : ∀ ds : List PyData, ndts ds = true → PyData.eqvAll ds ds = true
  | [], _ => by simp only [PyData.eqvAll]
  | d :: ds, h => by
    have h' : ndt d = true ∧ ndts ds = true := by simpa only [ndts, Bool.and_eq_true] using h
    simp only [PyData.eqvAll, eqv_refl d h'.1, eqvs_refl ds h'.2]; rfl
end
/-- told, not deep -/
def okS (d : PyData) : Bool := ndt d && (d.canLay0 && decide (d.depth ≤ 150))
theorem okS_eqOk {k : Nat} {d : PyData} (h : okS d = true) : eqOk k d d = true := by
  have h' : ndt d = true ∧ d.canLay0 = true ∧ d.depth ≤ 150 := by simpa only [okS, Bool.and_eq_true, decide_eq_true_eq] using h
  obtain ⟨h1, h2, h3⟩ := h'
  cases d with
  | list ds =>
    simp only [PyData.canLay0] at h2
    simp only [eqOk, h2, Bool.and_self, Bool.true_and]
    exact decide_eq_true (by omega)
  | tuple ds =>
    simp only [PyData.canLay0] at h2
    simp only [eqOk, h2, Bool.and_self, Bool.true_and]
    exact decide_eq_true (by omega)
  | dict kvs => cases h1
  | _ => rfl
theorem okS_eqD {d : PyData} (h : okS d = true) : eqD d d = true := by
  rw [← eqD_eqv]
  simp only [okS, Bool.and_eq_true] at h
  exact eqv_refl d h.1
theorem wEq_self {k : Nat} {d : PyData} (h : okS d = true) : wEq k (.d d) (.d d) = some (.d (.bool true)) := by
  simp only [wEq, okS_eqOk h, okS_eqD h, if_true]
theorem wNe_self {k : Nat} {d : PyData} (h : okS d = true) : wNe k (.d d) (.d d) = some (.d (.bool false)) := by
  simp only [wNe, okS_eqOk h, okS_eqD h, if_true, Bool.not_true]

end R
namespace R
open PySem L2 Nm
open PyProof.Rows
/-! ### the law's own defs, by what they do in the heap -/
abbrev TBs (K : PySem.W.Frag) (mg : Str → Option Value) (base : Heap) : Prop := ∀ p ∈ lkc T K mg, LamX.TabB base mg p.1 p.2
theorem gd_of {P : Program} {w : World} {K : PySem.W.Frag} {mg : Str → Option Value} {h : Heap} {fa : Addr} {base : Heap} (kn : Kn P w K mg h fa) (TB : TBs K mg base) {N ps : List Str} {x qual : Str} {st : Stmt} {f : Addr} {fd : FuncData} (FN : Fun K x qual st f fd) (S : FnScope N ps (defScope st)) (hlw : LwOk T K mg qual f)
    {k : Nat} {cdv : Value} {A : Around} {outer : List Env} {s : Shared} {H : Hp} {E : XK} (hcd : fd.code = cdv) (hr : Room k (A.deeper (envOfC qual (defScope st) s.heap.objs.size f cdv))) (ga : Bool) (hg : ga = true → A.guards = some []) :
    Gd ⟨T, N, callAt k, k, defScope st, true, ga, qual⟩ (cxOf CX0 P w K mg base N qual (defScope st) f cdv A outer s H E).nox :=
  ⟨rfl, rfl, rfl, hr, S.nd, kn.tab, kn.cal base TB k, kn.clo base TB, fun _ _ => rfl, S.kind, hg, fun _ => ⟨rfl, rfl, rfl⟩, fun _ => lw_of FN hlw hcd⟩
/-- a def that keeps a promise: what its callers want of it -/
structure DefOk (P : Program) (w : World) (K : PySem.W.Frag) (mg : Str → Option Value) (base : Heap) (k : Nat) (x : Str) (ps : List Str) (sp : Sp) : Prop where
  ex : ∃ f fd, mg x = some (.ref f) ∧ PySem.W.keepIn K (.ref f) = true ∧ Binds K fd ps [] ∧ FnOk P w K mg base CX0 k f fd ps sp
theorem noLw {K : PySem.W.Frag} {mg : Str → Option Value} {q : Str} {f : Addr} (h : q ∉ T.lk) : LwOk T K mg q f := fun z => absurd z h
/-- a list that is copied at once -/
structure Flat (k : Nat) (xs : List PyData) : Prop where
  im : imms xs = true
  few : xs.length ≤ 90000
  dp : callAt k 17 [.d (.list xs)] = some (.fl xs)
  ok : okS (.list [.list xs]) = true
/-- [[..]] anew: the outer list, the inner one -/
def spD2 (K : PySem.W.Frag) (mg : Str → Option Value) (k : Nat) : Sp := fun vs H Q _ => ∃ v xs, vs = [v] ∧ Flat k xs ∧ Nm.Dp K H v (.list [.list xs]) ∧ TbOk T K mg H ∧
  ∀ p a us H', H p = none → H a = none → a ≠ p → Nm.Same H H' → H' p = some (.lst [.ref a]) → H' a = some (.lst us) → Nm.DpAll K H' us xs → Q (.ref p) H'
section
variable {P : Program} {w : World} {K : PySem.W.Frag} {mg : Str → Option Value} {h : Heap} {fa : Addr} {base : Heap}
theorem dp_one {H : Hp} {v : V} {xs : List PyData} (hv : Nm.Dp K H v (.list [.list xs])) : ∃ l u, v = .ref l ∧ SqL K H l [u] ∧ Nm.Dp K H u (.list xs) := by
  cases hv with
  | lst hs ha =>
    cases ha with
    | cons h1 h2 =>
      cases h2
      exact ⟨_, _, rfl, hs, h1⟩
theorem lcall_at {F : Fs} {i : Nat} {fs : Rho → Option (List W)} {r : Rho} {ws : List W} {xs : List PyData} (e : fs r = some ws) (h : F i ws = some (.fl xs)) : lCall F i fs r = some xs := by
  unfold lCall; rw [e]; simp only [h]
theorem deep2_ok (kn : Kn P w K mg h fa) (TB : TBs K mg base) (k : Nat) : DefOk P w K mg base (k + 1) "_law_deep" ["_law_thing"] (spD2 K mg k) := by
  obtain ⟨f, fd, a, FN, b⟩ := kn.d_law_deep
  refine ⟨f, fd, PySem.W.mg_of kn.X kn.G a, FN.kp, .all b, fun_okC FN sc_law_deep (fun vs H Q E ⟨v, xs, e, _⟩ => by rw [e]; rfl) fun cdv A outer s H vs Q E hcd hr q => ?_⟩
  obtain ⟨v, xs, rfl, ⟨him, _, hd, _⟩, hv, tb, q⟩ := q
  have gd := gd_of kn TB FN sc_law_deep (noLw (by decide)) hcd hr false nofun (outer := outer) (H := H) (E := E)
  have rs := (rs_start (N := ["_law_thing", "_law_one"]) (RwAll.cons (w := .d (.list [.list xs])) hv .nil) tb).rv
  refine ⟨_, PSs.nox (pss_cons (ps_if (runT gd (rho0 ["_law_thing", "_law_one"] [.d (.list [.list xs])]) true (okT_val (ok_isi ty_list bl_isinstance rfl bl_list rfl (ok_var (i := 0) rfl (.inl rfl)))) rfl)
    (pss_one (ps_ret (lcOf gd 1 [none, some (.w (.d (.list xs)))] xs (N := ["_law_thing", "_law_one"]) (sc := defScope s_law_deep) rfl rfl (by decide +kernel) (pe_var (i := 0) rfl (.inl rfl)) (by decide +kernel) (ok_callL 17 rfl rfl rfl (okA_cons (ok_var (i := 1) rfl (.inl rfl)) okA_nil)) (lcall_at rfl hd)))) pss_nil) pss_never), ?_⟩
  obtain ⟨l, u, rfl, hl, hu⟩ := dp_one hv
  refine ⟨rs, fun H0 s0 => iteT ?_⟩
  refine ⟨_, rfl, l, rfl, ⟨_, s0.seq hl⟩, fun D hD => ?_⟩
  have hlD : ∀ o, H0 l = some o → l ≠ D := fun o e z => by rw [z, hD] at e; cases e
  have keep : ∀ {M : Hp}, Nm.Same H0 M → SqL K M l [u] := fun sm => sm.seq (s0.seq hl)
  refine lc_list (xs := [u]) (fun i M => i = 0 ∧ M = upd H0 D (.lst []) ∨ i = 1 ∧ ∃ a us, Nm.Same H0 M ∧ H0 a = none ∧ a ≠ D ∧ M D = some (.lst [.ref a]) ∧ M a = some (.lst us) ∧ Nm.DpAll K M us xs) (.inl ⟨rfl, rfl⟩) (fun i M hi hp => ?_) (fun i x M hx hp => ?_) fun M hp => ?_
  · rcases hp with ⟨_, rfl⟩ | ⟨_, a, us, sm, _⟩
    · exact keep (same_new hD _)
    · exact keep sm
  · rcases hp with ⟨rfl, rfl⟩ | ⟨rfl, _⟩
    · cases hx
      have sm0 : Nm.Same H0 (upd H0 D (.lst [])) := same_new hD _
      refine ⟨rfl, ?_⟩
      unfold tYes
      dsimp only
      rw [if_pos rfl]
      refine ⟨⟨rfl, fun i y e => ?_, tb_mono (s0.trans sm0) tb⟩, fun p us M4 hp s4 e1 e2 => ?_⟩
      · match i, e with
        | 1, e => cases e; exact ⟨u, rfl, dp_mono (s0.trans sm0) _ _ hu⟩
        | 0, e => cases e
        | i + 2, e => cases e
      · have hpD : p ≠ D := fun z => by rw [z, upd_same] at hp; cases hp
        have hD4 : M4 D = some (.lst []) := s4.at upd_same
        have x4 : Ext D M4 (upd M4 D (.lst [.ref p])) := extn_upd hD4
        refine ⟨[], hD4, by decide, .inr ⟨rfl, p, us, same_ext (sm0.trans s4) x4 hD, by rw [upd_ne hpD] at hp; exact hp, hpD, upd_same, x4.at e1 hpD, dpa_tmono (extn_tsame x4 hD4) _ _ him e2⟩⟩
    · cases hx
  · rcases hp with ⟨z, _⟩ | ⟨_, a, us, sm, ha, hne, e1, e2, e3⟩
    · cases z
    · exact q D a us M (s0.free hD) (s0.free ha) hne (s0.trans sm) e1 e2 e3

end

end R
namespace R
open PySem L2 Nm
open PyProof.Rows
/-- a pair of the same -/
def spTwo : Sp := fun vs H Q _ => ∃ v, vs = [v] ∧ ∀ t, H t = none → Q (.ref t) (upd H t (.tup [v, v]))
/-- a told list, spoilt -/
def spSp (K : PySem.W.Frag) (mg : Str → Option Value) (k : Nat) : Sp := fun vs H Q _ => ∃ q us ds, vs = [.ref q] ∧ H q = some (.lst us) ∧ Nm.DpAll K H us ds ∧ us.length ≤ 90000 ∧ TbOk T K mg H ∧ (∀ d ∈ ds, callAt k 18 [.d d] = some (.w (.d .none))) ∧
  ∀ H' us', Ext q H H' → H' q = some (.lst us') → Q .non H'
/-- the list in a list, filled anew -/
def spPut (K : PySem.W.Frag) (mg : Str → Option Value) (k : Nat) : Sp := fun vs H Q _ => ∃ p a us l H0 ys, vs = [.ref p, l] ∧ Flat k ys ∧ H p = some (.lst [.ref a]) ∧ a ≠ p ∧ H a = some (.lst us) ∧ Nm.Same H0 H ∧ H0 a = none ∧ Nm.Dp K H0 l (.list [.list ys]) ∧ TbOk T K mg H ∧
  ∀ H' us', Ext a H H' → H' a = some (.lst us') → Nm.DpAll K H' us' ys → Q .non H'
section
variable {P : Program} {w : World} {K : PySem.W.Frag} {mg : Str → Option Value} {h : Heap} {fa : Addr} {base : Heap}
theorem call_one {F : Fs} {i : Nat} {fs : Rho → Option (List W)} {r : Rho} {ws : List W} {v : W} (h : F i ws = some (.w v)) (e : fs r = some ws := by rfl) : cCall F i fs r = some v := by
  unfold cCall; rw [e]; simp only [h]; rfl
theorem ext_of {q : Addr} {H H1 H2 : Hp} (e : Nm.Same H H1) (x : Ext q H1 H2) : Ext q H H2 := (extn_of e).trans x
theorem two_ok (kn : Kn P w K mg h fa) (TB : TBs K mg base) (k : Nat) : DefOk P w K mg base (k + 1) "_law_two" ["_law_found"] spTwo := by
  obtain ⟨f, fd, a, FN, b⟩ := kn.d_law_two
  refine ⟨f, fd, PySem.W.mg_of kn.X kn.G a, FN.kp, .all b, fun_okC FN sc_law_two (fun vs H Q E ⟨v, e, _⟩ => by rw [e]; rfl) fun cdv A outer s H vs Q E hcd hr q => ?_⟩
  obtain ⟨v, rfl, q⟩ := q
  refine ⟨_, pss_one (ps_ret (pe_tup (pa_cons (pe_var (i := 0) rfl (.inl rfl)) (pa_cons (pe_var (i := 0) rfl (.inl rfl)) pa_nil)))), ?_⟩
  exact ⟨v, rfl, v, rfl, (show 2 ≤ sizeLine by decide), fun t ht => q t ht⟩
theorem spoilt_ok (kn : Kn P w K mg h fa) (TB : TBs K mg base) (k : Nat) : DefOk P w K mg base (k + 1) "_law_spoilt" ["_law_found"] (spSp K mg k) := by
  obtain ⟨f, fd, a, FN, b⟩ := kn.d_law_spoilt
  refine ⟨f, fd, PySem.W.mg_of kn.X kn.G a, FN.kp, .all b, fun_okC FN sc_law_spoilt (fun vs H Q E ⟨q, us, ds, e, _⟩ => by rw [e]; rfl) fun cdv A outer s H vs Q E hcd hr q => ?_⟩
  obtain ⟨l, us, ds, rfl, hl, hd, few, tb, hc, q⟩ := q
  have gd := gd_of kn TB FN sc_law_spoilt (noLw (by decide)) hcd hr false nofun (outer := outer) (H := H) (E := E)
  have rv : ∀ {M : Hp} (o : Option V), Nm.Same H M → RV T K mg M [some (.ref l), o] [some (.w (.d (.list ds))), none] := fun {M} o sm => ⟨rfl, (fun i y e => match i, e with
    | 0, e => by cases e; exact ⟨_, rfl, Nm.Dp.lst (SqL.of (sm.at hl)) (dpa_mono sm _ _ hd)⟩
    | 1, e => by cases e
    | i + 2, e => by cases e), tb_mono sm tb⟩
  refine ⟨_, PSs.nox (pss_cons (ps_if (runT gd [some (.w (.d (.list ds))), none] true (okT_val (ok_isi2 ty_list ty_tuple bl_isinstance rfl bl_list rfl bl_tuple rfl (ok_var (i := 0) rfl (.inl rfl)))) rfl)
      (pss_one (ps_for PassesOwn.never rfl (pi_list (pe_var (i := 0) rfl (.inl rfl))) (pg_name (i := 1) sc_law_spoilt.nd rfl (.inl rfl)) (pss_one (ps_expr (runEx gd (ok_call 18 rfl rfl rfl (okA_cons (ok_var (i := 1) rfl (.inl rfl)) okA_nil))))))) pss_nil)
    (pss_one (ps_if (runT gd [some (.w (.d (.list ds))), none] true (okT_val (ok_isi ty_list bl_isinstance rfl bl_list rfl (ok_var (i := 0) rfl (.inl rfl)))) rfl)
      (pss_one (ps_expr (pe_bm PySem.F.plainAttrs_list PySem.F.slot_list_append PySem.F.type_list_append mt_append (pe_var (i := 0) rfl (.inl rfl)) (pa_cons (pe_tup pa_nil) pa_nil)))) pss_nil))), ?_⟩
  refine ⟨rv none (Nm.Same.refl H), fun H0 s0 => iteT ?_⟩
  refine ⟨_, rfl, l, rfl, ⟨_, SqL.of (s0.at hl)⟩, ?_⟩
  refine for_list (xs := us) (fun i σ M => Nm.Same H M ∧ ∃ o, σ = [some (.ref l), o]) ⟨s0, none, rfl⟩ (fun i σ M hi hp => SqL.of (hp.1.at hl)) (fun i x σ M hx hp => ?_) fun σ M hp => ?_
  · obtain ⟨sm, o, rfl⟩ := hp
    obtain ⟨d, e1, e2⟩ := dpa_getV _ _ i x hd hx
    refine ⟨[none, some (.w (.d d))], .d .none, call_one (hc d (List.mem_of_getElem? e1)), ⟨rfl, fun j y e => ?_, tb_mono sm tb⟩, fun v M1 s1 hv => ⟨sm.trans s1, some x, rfl⟩⟩
    match j, e with
    | 1, e => cases e; exact ⟨x, rfl, dp_mono sm _ _ e2⟩
    | 0, e => cases e
    | j + 2, e => cases e
  · obtain ⟨sm, o, rfl⟩ := hp
    refine ⟨rv o sm, fun M1 s1 => iteT ?_⟩
    have hl1 := (sm.trans s1).at hl
    refine ⟨_, rfl, .inl ⟨rfl, _, SqL.of hl1⟩, by decide, fun t ht => ?_⟩
    have ne : l ≠ t := fun z => by rw [← z, hl1] at ht; cases ht
    have st : Nm.Same M1 (upd M1 t (.tup [])) := same_new ht _
    have hl2 := st.at hl1
    exact ⟨l, us, .ref t, rfl, rfl, hl2, Nat.lt_of_le_of_lt few (by decide), q _ _ (ext_of ((sm.trans s1).trans st) (ext_upd hl2 trivial)) upd_same⟩
theorem put_ok (kn : Kn P w K mg h fa) (TB : TBs K mg base) (k : Nat) : DefOk P w K mg base (k + 1) "_law_put" ["_law_handed", "_law_some"] (spPut K mg k) := by
  obtain ⟨f, fd, a0, FN, b⟩ := kn.d_law_put
  refine ⟨f, fd, PySem.W.mg_of kn.X kn.G a0, FN.kp, .all b, fun_okC FN sc_law_put (fun vs H Q E ⟨p, a, us, l, H0, ys, e, _⟩ => by rw [e]; rfl) fun cdv A outer s H vs Q E hcd hr q => ?_⟩
  obtain ⟨p, a, us, l, H0, ys, rfl, ⟨him, hly, hd, _⟩, hp, hne, ha, s0, na, hv, tb, q⟩ := q
  have gd := gd_of kn TB FN sc_law_put (noLw (by decide)) hcd hr false nofun (outer := outer) (H := H) (E := E)
  refine ⟨_, PSs.nox (pss_one (ps_for PassesOwn.never rfl (pi_zip (by rfl) (kn.tab.bl _ bl_zip) (pa_cons (pe_var (i := 0) rfl (.inl rfl)) (pa_cons (pe_var (i := 1) rfl (.inl rfl)) pa_nil))) (pg_tup rfl (pgs_cons (pg_name (i := 2) sc_law_put.nd rfl (.inl rfl)) (pgs_cons (pg_name (i := 3) sc_law_put.nd rfl (.inl rfl)) pgs_nil)))
    (pss_cons (ps_while PassesOwn.never (pt_cmpR (op_neE (room200 gd.room)) (pe_var (i := 2) rfl (.inl rfl)) (pe_lst pa_nil) rfl) (pss_one (ps_expr (pe_bm0 PySem.F.plainAttrs_list PySem.F.slot_list_pop PySem.F.type_list_pop mt_pop (pe_var (i := 2) rfl (.inl rfl))))))
    (pss_one (ps_expr (pe_bm PySem.F.plainAttrs_list PySem.F.slot_list_extend PySem.F.type_list_extend mt_extend (pe_var (i := 2) rfl (.inl rfl)) (pa_cons (runL gd [none, none, none, some (.w (.d (.list ys)))] ys (ok_callL 17 rfl rfl rfl (okA_cons (ok_var (i := 3) rfl (.inl rfl)) okA_nil)) (lcall_at rfl hd)) pa_nil))))))), ?_⟩
  obtain ⟨b1, u, rfl, hs1, hu⟩ := dp_one hv
  refine ⟨_, rfl, _, rfl, p, b1, [.ref a], [u], rfl, SqL.of hp, s0.seq hs1, ?_⟩
  refine RZ.for_zipL (xs := [V.ref a]) (ys := [u]) rfl (fun i σ M => i = 0 ∧ M = H ∧ σ = [some (.ref p), some (.ref b1), none, none] ∨ i = 1 ∧ ∃ us', Ext a H M ∧ M a = some (.lst us') ∧ Nm.DpAll K M us' ys) (.inl ⟨rfl, rfl, rfl⟩) (fun i σ M hp' => ?_) (fun i x y Tt σ M hx hy hp' hT => ?_) fun σ M hp' => ?_
  · rcases hp' with ⟨_, rfl, _⟩ | ⟨_, us', x, e, _⟩
    · exact ⟨SqL.of hp, s0.seq hs1⟩
    · exact ⟨SqL.of (x.at hp (fun z => hne z.symm)), (same_ext s0 x na).seq hs1⟩
  · rcases hp' with ⟨rfl, rfl, rfl⟩ | ⟨rfl, _⟩
    · cases hx
      cases hy
      have sT : Nm.Same M (upd M Tt (.tup [.ref a, u])) := same_new hT _
      refine ⟨Tt, [.ref a, u], rfl, .inl (.inl upd_same), rfl, _, _, rfl, _, _, rfl, rfl, ?_⟩
      refine ⟨fun m σ M' => σ = [some (.ref p), some (.ref b1), some (.ref a), some u] ∧ ∃ us', us'.length = m ∧ Ext a M M' ∧ M' a = some (.lst us'), ⟨us.length, rfl, us, rfl, extn_of sT, sT.at ha⟩, ?_⟩
      rintro m σ M1 ⟨rfl, us', hl, x, e⟩
      refine ⟨.ref a, rfl, by decide, fun e0 he0 => ⟨a, e0, us', rfl, rfl, (same_new he0 _).seq (SqL.of e), SqL.of upd_same, _, rfl, ?_⟩⟩
      have sE : Nm.Same M1 (upd M1 e0 (.lst [])) := same_new he0 _
      have xE : Ext a M (upd M1 e0 (.lst [])) := x.trans (extn_of sE)
      have eE := sE.at e
      cases us' with
      | cons y0 us1 =>
        refine iteT ⟨fun σ' M' => σ' = [some (.ref p), some (.ref b1), some (.ref a), some u] ∧ ∃ us', us'.length < m ∧ Ext a M M' ∧ M' a = some (.lst us'), fun σ' M' ⟨h1, us', h2, h3⟩ => ⟨us'.length, h2, h1, us', rfl, h3⟩, ?_⟩
        obtain ⟨y1, hy1⟩ : ∃ y1, (y0 :: us1)[(y0 :: us1).length - 1]? = some y1 := ⟨_, List.getElem?_eq_getElem (by simp)⟩
        exact ⟨_, rfl, .inl ⟨rfl, _, SqL.of eE⟩, a, _, y1, rfl, rfl, eE, hy1, rfl, (y0 :: us1).dropLast, by rw [List.length_dropLast, ← hl]; simp, xE.trans (ext_upd eE trivial), upd_same⟩
      | nil =>
        refine iteF ?_
        have sm := same_ext s0 xE na
        refine ⟨_, rfl, .inl ⟨rfl, _, SqL.of eE⟩, ⟨rfl, (fun i y e => match i, e with
          | 3, e => by cases e; exact ⟨u, rfl, dp_mono sm _ _ hu⟩
          | 0, e => by cases e
          | 1, e => by cases e
          | 2, e => by cases e
          | i + 4, e => by cases e), tb_ext xE tb⟩, fun p2 zs M2 hp2 s2 e1 e2 => ?_⟩
        have e3 := s2.at eE
        have x3 : Ext a M2 (upd M2 a (.lst ([] ++ zs))) := ext_upd e3 trivial
        exact ⟨a, p2, [], zs, rfl, rfl, e3, e1, by rw [dpa_len _ _ e2]; exact Nat.le_trans (show 0 + ys.length ≤ 90000 by omega) (by decide), .inr ⟨rfl, zs, (xE.trans (extn_of s2)).trans x3, upd_same, dpa_tmono (extn_tsame x3 e3) _ _ him e2⟩⟩
    · cases hx
  · rcases hp' with ⟨z, _⟩ | ⟨_, us', x, e, d⟩
    · cases z
    · exact q M us' x e d
end

end R
namespace R
open PySem L2 Nm
open PyProof.Rows
/-! ### what is asked: a lambda that tells a pair of the same new list -/
def spAsk (K : PySem.W.Frag) (zs : List PyData) (H : Hp) (Q : VK) : Prop := ∀ t q us H', H t = none → H q = none → Nm.Same H H' → H' t = some (.tup [.ref q, .ref q]) → H' q = some (.lst us) → Nm.DpAll K H' us zs → Q (.ref t) H'
structure AskOk (P : Program) (w : World) (K : PySem.W.Frag) (mg : Str → Option Value) (base : Heap) (k : Nat) (AH : Hp → V → Prop) (G : PyData → Option (List PyData)) : Prop where
  mono : ∀ {H H' : Hp} {v : V}, AH H v → Nm.Same H H' → AH H' v
  at_ : ∀ {H : Hp} {h : Heap} {v : V}, HOk P w H h → AH H v → ∃ a, v = .ref a ∧ PySem.W.FnAt a h
  run : ∀ {A : Around} {outer : List Env} {s : Shared} {H : Hp} {a : Addr} {u : V} {uu : Value} {d : PyData} {zs : List PyData} {Q : VK}, AH H (.ref a) → Room k A → Env0 P w K mg base A outer s H → RelV u uu → Nm.Dp K H u d → TbOk T K mg H → G d = some zs → spAsk K zs H Q →
    codeAny (model P w) A (.call (.ref a) ⟨[uu], []⟩) (CR CX0 outer P w H s Q E0) s
/-- its text may be told -/
def Shw (zs : List PyData) : Prop := (PyData.list zs).showable = true ∧ (PyData.list zs).hasDict = false ∧ (PyData.list zs).shown.length ≤ 100000 ∧ (PyData.list zs).depth ≤ 180
section
variable {c : C0} {X : Cx} {AH : Hp → V → Prop} {G : PyData → Option (List PyData)} {x : Str} {e : Expr} {te : TE} {p p0 p1 p2 pos pos2 : Pos} {j : Nat}
theorem pe_ask (gd : Gd c X) (ho : AskOk X.prog X.w X.K X.mg X.base c.k AH G) (hN : c.N[j]? = some x) (hv : Vis c.sc x) (he : PE X e te) (hd : (x == ("__debug__" : Str)) = false := by decide) (hcd : (x == ("__classdict__" : Str)) = false := by decide)
    (hs1 : starEach [e] X.env = [(false, eval e X.env)] := by rfl) (hpl : (backTo pos (starEach [] X.env)).any (·.1) = false := by rfl) :
    PE X (.Call (.Name x p) [e] [] pos) (fun s H Q => ∃ v, s[j]? = some (some v) ∧ AH H v ∧ te s H fun u0 H1 => ∃ u, [u0] = [u] ∧ AH H1 v ∧ ∃ d zs, Nm.Dp X.K H1 u d ∧ TbOk T X.K X.mg H1 ∧ G d = some zs ∧ spAsk X.K zs H1 Q) := ⟨fun pins s σ H Q I h => by
  obtain ⟨v, hs, hf, ht⟩ := h
  refine wpAny_Call_Name_kw (thn ((pe_var (pos := p) (by rw [gd.hN]; exact hN) (by rw [gd.hsc]; exact hv) hd hcd).run pins s σ H (fun v1 H1 => v1 = v ∧ H1 = H) I ⟨v, hs, rfl, rfl⟩) fun u s1 ⟨v1, H1, I1, r1, q1⟩ => ?_)
  obtain ⟨ev, eH⟩ := q1
  subst ev
  rw [eH] at I1
  obtain ⟨a, rfl, fat⟩ := ho.at_ I1.hok hf
  obtain rfl : u = Value.ref a := r1
  refine PySem.W.callWith_F (first := []) fat (thn ((pa_cons he pa_nil hs1).run pos pins s1 σ H (fun vs H2 => ∃ u, vs = [u] ∧ AH H2 (.ref a) ∧ ∃ d zs, Nm.Dp X.K H2 u d ∧ TbOk T X.K X.mg H2 ∧ G d = some zs ∧ spAsk X.K zs H2 Q) I1 ?_) fun us s2 ⟨vs, H2, I2, r, q⟩ => ?_) hs1 hpl
  · exact ht
  · obtain ⟨u, rfl, hf2, d, zs, g1, g2, g3, g4⟩ := q
    obtain ⟨a', ea, fat2⟩ := ho.at_ I2.hok hf2
    cases ea
    cases r with
    | cons ru rr =>
      cases rr
      exact ⟨fat2, call_end I2 (ho.run hf2 gd.room I2.env0 ru g1 g2 g3 g4)⟩⟩
end

end R
namespace R
open PySem L2 Nm
open PyProof.Rows
/-- what a told list is spoilt by -/
structure Told (k : Nat) (zs : List PyData) : Prop where
  shw : Shw zs
  few : zs.length ≤ 90000
  sp : ∀ d ∈ zs, callAt k 18 [.d d] = some (.w (.d .none))
def spDoor (K : PySem.W.Frag) (mg : Str → Option Value) (k : Nat) (AH : Hp → V → Prop) (G : PyData → Option (List PyData)) : Sp := fun vs H Q _ => ∃ v l1 l2 xs ys zs ws, vs = [v, l1, l2] ∧ AH H v ∧ Flat k xs ∧ Flat k ys ∧ Nm.Dp K H l1 (.list [.list xs]) ∧ Nm.Dp K H l2 (.list [.list ys]) ∧ TbOk T K mg H ∧
  G (.list [.list xs]) = some zs ∧ G (.list [.list ys]) = some ws ∧ Told k zs ∧ Told k ws ∧ ∀ H', Nm.Same H H' → Q (.bl true) H'
/-- a def that is asked where no repr is under way -/
structure DefG (P : Program) (w : World) (K : PySem.W.Frag) (mg : Str → Option Value) (base : Heap) (k : Nat) (x : Str) (ps : List Str) (sp : Sp) : Prop where
  ex : ∃ f fd, mg x = some (.ref f) ∧ PySem.W.keepIn K (.ref f) = true ∧ Binds K fd ps [] ∧ RunG P w K mg base k f fd ps sp
  long : ∀ vs M Q E, sp vs M Q E → vs.length = ps.length
theorem gd_run {P : Program} {w : World} {K : PySem.W.Frag} {mg : Str → Option Value} {h : Heap} {fa : Addr} {base : Heap} (kn : Kn P w K mg h fa) (TB : TBs K mg base) {N ps : List Str} {qual : Str} {st : Stmt} {f : Addr} (S : FnScope N ps (defScope st)) (hn : qual ∉ T.lk)
    {k : Nat} {cdv : Value} {A : Around} {outer : List Env} {s : Shared} {H : Hp} {E : XK} (hg : A.guards = some []) (hr : Room k (A.deeper (envOfC qual (defScope st) s.heap.objs.size f cdv))) :
    Gd ⟨T, N, callAt k, k, defScope st, true, true, qual⟩ (cxOf CX0 P w K mg base N qual (defScope st) f cdv A outer s H E).nox :=
  ⟨rfl, rfl, rfl, hr, S.nd, kn.tab, kn.cal base TB k, kn.clo base TB, fun _ _ => rfl, S.kind, fun _ => hg, fun _ => ⟨rfl, rfl, rfl⟩, fun _ => ⟨rfl, fun z => absurd z hn⟩⟩
section
variable {P : Program} {w : World} {K : PySem.W.Frag} {mg : Str → Option Value} {h : Heap} {fa : Addr} {base : Heap}
theorem eqS (z : Str) : eqD (.str z) (.str z) = true := by
  rw [← eqD_eqv]
  simp [PyData.eqv]
theorem door_ok (kn : Kn P w K mg h fa) (TB : TBs K mg base) (k : Nat) {AH : Hp → V → Prop} {G : PyData → Option (List PyData)} (ho : AskOk P w K mg base (k + 1) AH G) : DefG P w K mg base (k + 2) "_law_door_right" ["_law_ask", "_law_lists", "_law_others"] (spDoor K mg k AH G) := by
  obtain ⟨f, fd, a, FN, b⟩ := kn.d_law_door_right
  have long : ∀ vs M Q E, spDoor K mg k AH G vs M Q E → vs.length = 3 := fun vs M Q E ⟨v, l1, l2, xs, ys, zs, ws, e, _⟩ => by rw [e]; rfl
  refine ⟨⟨f, fd, PySem.W.mg_of kn.X kn.G a, FN.kp, .all b, run_of FN sc_law_door_right long fun cdv A outer s H vs Q E hg hr q => ?_⟩, long⟩
  obtain ⟨f2, fd2, m2, k2, b2, F2⟩ := (deep2_ok kn TB k).ex
  obtain ⟨f3, fd3, m3, k3, b3, F3⟩ := (spoilt_ok kn TB k).ex
  obtain ⟨f4, fd4, m4, k4, b4, F4⟩ := (put_ok kn TB k).ex
  have gd := gd_run kn TB (qual := "_law_door_right") (cdv := cdv) (f := f) sc_law_door_right (by decide) hg hr (outer := outer) (H := H) (E := E)
  obtain ⟨v, l1, l2, xs, ys, zs, ws, rfl, hA, fx, fy, hx, hy, tb, gx, gy, tz, tw, q⟩ := q
  have nx := sc_law_door_right.nd
  refine ⟨_, pss_cons (ps_set (i := 3) nx rfl (.inl rfl) (pe_call F2 hr rfl m2 k2 b2 .nil pass0 (pa_cons (pe_var (i := 1) rfl (.inl rfl)) pa_nil)))
    (pss_cons (ps_asg (pe_ask (j := 0) gd ho rfl (.inl rfl) (pe_var (i := 3) rfl (.inl rfl))) (pg_tup rfl (pgs_cons (pg_name (i := 4) nx rfl (.inl rfl)) (pgs_cons (pg_name (i := 5) nx rfl (.inl rfl)) pgs_nil))))
    (pss_cons (ps_par (i := 6) (j := 7) rfl nx rfl rfl (by decide) rfl rfl (pa_cons (pe_callTy (call_shw (k := k + 1) hg hr) (by rfl) (kn.tab.bl _ bl_str) boot_strT (pa_cons (pe_var (i := 4) rfl (.inl rfl)) pa_nil))
        (pa_cons (pe_callTy (call_shw (k := k + 1) hg hr) (by rfl) (kn.tab.bl _ bl_str) boot_strT (pa_cons (pe_ix ix_seq (pe_ask (j := 0) gd ho rfl (.inl rfl) (pe_call F2 hr rfl m2 k2 b2 .nil pass0 (pa_cons (pe_var (i := 2) rfl (.inl rfl)) pa_nil))) pe_int (by intro _ _; rfl)) pa_nil)) pa_nil)) rfl)
    (pss_cons (ps_if (pt_cmpR (op_neG (room200 gd.room)) (pe_var (i := 3) rfl (.inl rfl)) (pe_var (i := 1) rfl (.inl rfl)) rfl) pss_never pss_nil)
    (pss_cons (ps_expr (pe_call F3 hr rfl m3 k3 b3 .nil pass0 (pa_cons (pe_var (i := 5) rfl (.inl rfl)) pa_nil)))
    (pss_cons (ps_if (pw_or (pt_cmpR (op_neG (room200 gd.room)) (pe_callTy (call_shw (k := k + 1) hg hr) (by rfl) (kn.tab.bl _ bl_str) boot_strT (pa_cons (pe_ix ix_seq (pe_ask (j := 0) gd ho rfl (.inl rfl) (pe_var (i := 3) rfl (.inl rfl))) pe_int (by intro _ _; rfl)) pa_nil)) (pe_var (i := 6) rfl (.inl rfl)) rfl)
        (pw_or1 (pt_cmpR (op_neG (room200 gd.room)) (pe_var (i := 3) rfl (.inl rfl)) (pe_var (i := 1) rfl (.inl rfl)) rfl))).pt pss_never pss_nil)
    (pss_cons (ps_for PassesOwn.never rfl (pi_tup (pe_tup (pa_cons (pe_tup (pa_cons (pe_var (i := 2) rfl (.inl rfl)) (pa_cons (pe_var (i := 7) rfl (.inl rfl)) pa_nil))) (pa_cons (pe_tup (pa_cons (pe_var (i := 1) rfl (.inl rfl)) (pa_cons (pe_var (i := 6) rfl (.inl rfl)) pa_nil))) pa_nil)))) (pg_tup rfl (pgs_cons (pg_name (i := 8) nx rfl (.inl rfl)) (pgs_cons (pg_name (i := 9) nx rfl (.inl rfl)) pgs_nil)))
      (pss_cons (ps_expr (pe_call F4 hr rfl m4 k4 b4 .nil pass0 (pa_cons (pe_var (i := 3) rfl (.inl rfl)) (pa_cons (pe_var (i := 8) rfl (.inl rfl)) pa_nil))))
      (pss_one (ps_if (pw_or (pt_cmpR (op_neG (room200 gd.room)) (pe_callTy (call_shw (k := k + 1) hg hr) (by rfl) (kn.tab.bl _ bl_str) boot_strT (pa_cons (pe_ix ix_seq (pe_ask (j := 0) gd ho rfl (.inl rfl) (pe_var (i := 3) rfl (.inl rfl))) pe_int (by intro _ _; rfl)) pa_nil)) (pe_var (i := 9) rfl (.inl rfl)) rfl)
        (pw_or1 (pt_cmpR (op_neG (room200 gd.room)) (pe_var (i := 3) rfl (.inl rfl)) (pe_var (i := 8) rfl (.inl rfl)) rfl))).pt pss_never pss_nil))))
    (pss_one (ps_ret pe_bl)))))))), ?_⟩
  have dpl : ∀ {M : Hp} {p a : Addr} {us : List V} {xs : List PyData}, M p = some (.lst [.ref a]) → M a = some (.lst us) → Nm.DpAll K M us xs → Nm.Dp K M (.ref p) (.list [.list xs]) := fun e1 e2 e3 => .lst (SqL.of e1) (.cons (.lst (SqL.of e2) e3) .nil)
  have shw : ∀ {M : Hp} {qq : Addr} {us : List V} {zs : List PyData} {Q : VK}, Told k zs → M qq = some (.lst us) → Nm.DpAll K M us zs → Q (.str (PyData.list zs).shown) M → rShw K (k + 1) [.ref qq] M Q := fun tz e d q => .inr (.inr ⟨_, _, rfl, .lst (SqL.of e) d, tz.shw.1, tz.shw.2.1, tz.shw.2.2.1, Nat.le_trans tz.shw.2.2.2 (Nat.le_add_right _ _), q⟩)
  refine ⟨l1, rfl, l1, xs, rfl, fx, hx, tb, fun p a us H1 np na hne s1 e1 e2 e3 => ?_⟩
  refine ⟨v, rfl, ho.mono hA s1, .ref p, rfl, .ref p, rfl, ho.mono hA s1, .list [.list xs], zs, dpl e1 e2 e3, tb_mono s1 tb, gx, fun t qq u2 H2 nt nq s2 et eq e4 => ?_⟩
  refine ⟨t, [.ref qq, .ref qq], rfl, .inl (.inl et), rfl, _, _, rfl, _, _, rfl, rfl, ?_⟩
  refine ⟨.ref qq, rfl, ?_⟩
  dsimp only [tNil, tC]
  refine shw tz eq e4 ?_
  have s02 := s1.trans s2
  refine ⟨v, rfl, ho.mono hA s02, l2, rfl, l2, ys, rfl, fy, dp_mono s02 _ _ hy, tb_mono s02 tb, fun p3 a3 us3 H3 np3 na3 hne3 s3 e31 e32 e33 => ?_⟩
  have s03 := s02.trans s3
  refine ⟨.ref p3, rfl, ho.mono hA s03, .list [.list ys], ws, dpl e31 e32 e33, tb_mono s03 tb, gy, fun t4 q4 u4 H4 nt4 nq4 s4 et4 eq4 e44 => ?_⟩
  refine .inr (.inl ⟨t4, _, 0, .ref q4, rfl, rfl, .inl (.inl et4), rfl, ?_⟩)
  dsimp only [tNil, tC]
  refine shw tw eq4 e44 ?_
  refine ⟨_, _, rfl, ?_⟩
  have s24 := s3.trans s4
  have s14 := s2.trans s24
  have s04 := s1.trans s14
  refine ⟨.ref p, rfl, l1, rfl, .list [.list xs], .list [.list xs], dp_mono s14 _ _ (dpl e1 e2 e3), dp_mono s04 _ _ hx, okS_eqOk fx.ok, _, rfl, ?_⟩
  rw [okS_eqD fx.ok]
  refine iteF ?_
  refine ⟨.ref qq, rfl, qq, u2, zs, rfl, s24.at eq, dpa_mono s24 _ _ e4, by rw [dpa_len _ _ e4]; exact tz.few, tb_mono s04 tb, tz.sp, fun H5 us5 x5 e5 => ?_⟩
  have s15 := same_ext s14 x5 nq
  have s05 := s1.trans s15
  refine ⟨v, rfl, ho.mono hA s05, .ref p, rfl, .ref p, rfl, ho.mono hA s05, .list [.list xs], zs, dp_mono s15 _ _ (dpl e1 e2 e3), tb_mono s05 tb, gx, fun t6 q6 u6 H6 nt6 nq6 s6 et6 eq6 e66 => ?_⟩
  refine .inr (.inl ⟨t6, _, 0, .ref q6, rfl, rfl, .inl (.inl et6), rfl, ?_⟩)
  dsimp only [tNil, tC]
  refine shw tz eq6 e66 ?_
  refine ⟨_, rfl, .str _, .str _, .str _, .str _, rfl, _, rfl, ?_⟩
  rw [eqS]
  refine iteF ?_
  have s16 := s15.trans s6
  have s06 := s1.trans s16
  refine ⟨.ref p, rfl, l1, rfl, .list [.list xs], .list [.list xs], dp_mono s16 _ _ (dpl e1 e2 e3), dp_mono s06 _ _ hx, okS_eqOk fx.ok, _, rfl, ?_⟩
  rw [okS_eqD fx.ok]
  refine iteF ?_
  refine ⟨l2, rfl, _, rfl, (show 2 ≤ sizeLine by decide), fun ta hta => ⟨l1, rfl, _, rfl, (show 2 ≤ sizeLine by decide), fun tb2 htb => ⟨(show 2 ≤ sizeLine by decide), fun tc htc => ⟨tc, rfl, ⟨_, .inl (.inl upd_same)⟩, ?_⟩⟩⟩⟩
  have sA := same_new hta (.tup [l2, .str (PyData.list ws).shown])
  have sB := same_new htb (.tup [l1, .str (PyData.list zs).shown])
  have sC := same_new htc (.tup [.ref ta, .ref tb2])
  have s67 := sA.trans (sB.trans sC)
  refine for_tup (xs := [V.ref ta, .ref tb2]) (fun _ σ M => ∃ o8 o9 us, σ = [some v, some l1, some l2, some (.ref p), some (.ref qq), some (.ref qq), some (.str (PyData.list zs).shown), some (.str (PyData.list ws).shown), o8, o9] ∧ Nm.Same H M ∧ M tc = some (.tup [.ref ta, .ref tb2]) ∧ M ta = some (.tup [l2, .str (PyData.list ws).shown]) ∧ M tb2 = some (.tup [l1, .str (PyData.list zs).shown]) ∧ M p = some (.lst [.ref a]) ∧ M a = some (.lst us))
    ⟨none, none, us, rfl, s06.trans s67, upd_same, (sB.trans sC).at upd_same, sC.at upd_same, (s16.trans s67).at e1, (s16.trans s67).at e2⟩ (fun i σ M hi ⟨_, _, _, _, _, e, _⟩ => .inl (.inl e)) (fun i x σ M hxi hp => ?_) fun σ M hp => ?_
  · obtain ⟨o8, o9, us7, rfl, sm, g1, g2, g3, g4, g5⟩ := hp
    obtain ⟨tt, l, ys', ws', rfl, gt, fl, dl, gl, tl⟩ : ∃ tt l ys' ws', x = .ref tt ∧ M tt = some (.tup [l, .str (PyData.list ws').shown]) ∧ Flat k ys' ∧ Nm.Dp K H l (.list [.list ys']) ∧ G (.list [.list ys']) = some ws' ∧ Told k ws' := by
      match i, hxi with
      | 0, e => cases e; exact ⟨ta, l2, ys, ws, rfl, g2, fy, hy, gy, tw⟩
      | 1, e => cases e; exact ⟨tb2, l1, xs, zs, rfl, g3, fx, hx, gx, tz⟩
      | i + 2, e => cases e
    refine ⟨tt, [l, .str (PyData.list ws').shown], rfl, .inl (.inl gt), rfl, _, _, rfl, _, _, rfl, rfl, ?_⟩
    refine ⟨.ref p, rfl, l, rfl, p, a, us7, l, H, ys', rfl, fl, g4, hne, g5, sm, na, dl, tb_mono sm tb, fun M' us8 x8 e8 d8 => ?_⟩
    have sm' := same_ext sm x8 na
    have g4' := x8.at g4 (fun z => hne z.symm)
    have nt : ∀ {b : Addr} {zs : List V}, M b = some (.tup zs) → b ≠ a := fun e z => by rw [z, g5] at e; cases e
    refine ⟨v, rfl, ho.mono hA sm', .ref p, rfl, .ref p, rfl, ho.mono hA sm', .list [.list ys'], ws', dpl g4' e8 d8, tb_mono sm' tb, gl, fun t9 q9 u9 M9 nt9 nq9 s9 et9 eq9 e99 => ?_⟩
    refine .inr (.inl ⟨t9, _, 0, .ref q9, rfl, rfl, .inl (.inl et9), rfl, ?_⟩)
    dsimp only [tNil, tC]
    refine shw tl eq9 e99 ?_
    refine ⟨_, rfl, .str _, .str _, .str _, .str _, rfl, _, rfl, ?_⟩
    rw [eqS]
    refine iteF ?_
    refine ⟨.ref p, rfl, l, rfl, .list [.list ys'], .list [.list ys'], dp_mono s9 _ _ (dpl g4' e8 d8), dp_mono (sm'.trans s9) _ _ dl, okS_eqOk fl.ok, _, rfl, ?_⟩
    rw [okS_eqD fl.ok]
    refine iteF ?_
    exact ⟨_, _, us8, rfl, sm'.trans s9, s9.at (x8.at g1 (nt g1)), s9.at (x8.at g2 (nt g2)), s9.at (x8.at g3 (nt g3)), s9.at g4', s9.at e8⟩
  · obtain ⟨o8, o9, us7, rfl, sm, _⟩ := hp
    exact q M sm
end

end R
namespace R
open PySem L2 Nm
open PyProof.Rows
def spNew (K : PySem.W.Frag) (mg : Str → Option Value) (k : Nat) (AH : Hp → V → Prop) (G : PyData → Option (List PyData)) : Sp := fun vs H Q _ => ∃ v l ds, vs = [v, l] ∧ AH H v ∧ Nm.Dp K H l (.list ds) ∧ TbOk T K mg H ∧ (∀ d ∈ ds, ∃ zs, G d = some zs ∧ Told k zs) ∧ ∀ H', Nm.Same H H' → Q (.bl true) H'
section
variable {P : Program} {w : World} {K : PySem.W.Frag} {mg : Str → Option Value} {h : Heap} {fa : Addr} {base : Heap}
theorem new_ok (kn : Kn P w K mg h fa) (TB : TBs K mg base) (k : Nat) {AH : Hp → V → Prop} {G : PyData → Option (List PyData)} (ho : AskOk P w K mg base (k + 1) AH G) : DefG P w K mg base (k + 2) "_law_new_right" ["_law_ask", "_law_things"] (spNew K mg k AH G) := by
  obtain ⟨f, fd, a, FN, b⟩ := kn.d_law_new_right
  have long : ∀ vs M Q E, spNew K mg k AH G vs M Q E → vs.length = 2 := fun vs M Q E ⟨v, l, ds, e, _⟩ => by rw [e]; rfl
  refine ⟨⟨f, fd, PySem.W.mg_of kn.X kn.G a, FN.kp, .all b, run_of FN sc_law_new_right long fun cdv A outer s H vs Q E hg hr q => ?_⟩, long⟩
  obtain ⟨f3, fd3, m3, k3, b3, F3⟩ := (spoilt_ok kn TB k).ex
  have gd := gd_run kn TB (qual := "_law_new_right") (cdv := cdv) (f := f) sc_law_new_right (by decide) hg hr (outer := outer) (H := H) (E := E)
  obtain ⟨v, l, ds, rfl, hA, hl, tb, hall, q⟩ := q
  have nx := sc_law_new_right.nd
  refine ⟨_, pss_cons (ps_for PassesOwn.never rfl (pi_list (pe_var (i := 1) rfl (.inl rfl))) (pg_name (i := 2) nx rfl (.inl rfl))
      (pss_cons (ps_asg (pe_ask (j := 0) gd ho rfl (.inl rfl) (pe_var (i := 2) rfl (.inl rfl))) (pg_tup rfl (pgs_cons (pg_name (i := 3) nx rfl (.inl rfl)) (pgs_cons (pg_name (i := 4) nx rfl (.inl rfl)) pgs_nil))))
      (pss_cons (ps_set (i := 5) nx rfl (.inl rfl) (pe_callTy (call_shw (k := k + 1) hg hr) (by rfl) (kn.tab.bl _ bl_str) boot_strT (pa_cons (pe_var (i := 3) rfl (.inl rfl)) pa_nil)))
      (pss_cons (ps_expr (pe_call F3 hr rfl m3 k3 b3 .nil pass0 (pa_cons (pe_var (i := 4) rfl (.inl rfl)) pa_nil)))
      (pss_one (ps_if (pt_cmpR (op_neG (room200 gd.room)) (pe_callTy (call_shw (k := k + 1) hg hr) (by rfl) (kn.tab.bl _ bl_str) boot_strT (pa_cons (pe_ix ix_seq (pe_ask (j := 0) gd ho rfl (.inl rfl) (pe_var (i := 2) rfl (.inl rfl))) pe_int (by intro _ _; rfl)) pa_nil)) (pe_var (i := 5) rfl (.inl rfl)) rfl) pss_never pss_nil))))))
    (pss_one (ps_ret pe_bl)), ?_⟩
  have shw : ∀ {M : Hp} {qq : Addr} {us : List V} {zs : List PyData} {Q : VK}, Told k zs → M qq = some (.lst us) → Nm.DpAll K M us zs → Q (.str (PyData.list zs).shown) M → rShw K (k + 1) [.ref qq] M Q := fun tz e d q => .inr (.inr ⟨_, _, rfl, .lst (SqL.of e) d, tz.shw.1, tz.shw.2.1, tz.shw.2.2.1, Nat.le_trans tz.shw.2.2.2 (Nat.le_add_right _ _), q⟩)
  cases hl with
  | lst hs hd =>
    rename_i al xs
    refine ⟨_, rfl, al, rfl, ⟨_, hs⟩, ?_⟩
    refine for_list (xs := xs) (fun _ σ M => ∃ o2 o3 o4 o5, σ = [some v, some (.ref al), o2, o3, o4, o5] ∧ Nm.Same H M) ⟨none, none, none, none, rfl, Nm.Same.refl H⟩ (fun i σ M hi ⟨_, _, _, _, _, sm⟩ => sm.seq hs) (fun i x σ M hxi hp => ?_) fun σ M hp => ?_
    · obtain ⟨o2, o3, o4, o5, rfl, s0⟩ := hp
      obtain ⟨d, hd1, hd2⟩ := dpa_getV _ _ i x hd hxi
      obtain ⟨zs, gz, tz⟩ := hall d (List.mem_of_getElem? hd1)
      refine ⟨v, rfl, ho.mono hA s0, x, rfl, x, rfl, ho.mono hA s0, d, zs, dp_mono s0 _ _ hd2, tb_mono s0 tb, gz, fun t qq u2 H2 nt nq s2 et eq e4 => ?_⟩
      refine ⟨t, [.ref qq, .ref qq], rfl, .inl (.inl et), rfl, _, _, rfl, _, _, rfl, rfl, ?_⟩
      refine ⟨.ref qq, rfl, ?_⟩
      dsimp only [tNil, tC]
      refine shw tz eq e4 ?_
      have s02 := s0.trans s2
      refine ⟨.ref qq, rfl, qq, u2, zs, rfl, eq, e4, by rw [dpa_len _ _ e4]; exact tz.few, tb_mono s02 tb, tz.sp, fun H5 us5 x5 e5 => ?_⟩
      have s05 := s0.trans (same_ext s2 x5 nq)
      refine ⟨v, rfl, ho.mono hA s05, x, rfl, x, rfl, ho.mono hA s05, d, zs, dp_mono s05 _ _ hd2, tb_mono s05 tb, gz, fun t6 q6 u6 H6 nt6 nq6 s6 et6 eq6 e66 => ?_⟩
      refine .inr (.inl ⟨t6, _, 0, .ref q6, rfl, rfl, .inl (.inl et6), rfl, ?_⟩)
      dsimp only [tNil, tC]
      refine shw tz eq6 e66 ?_
      refine ⟨_, rfl, .str _, .str _, .str _, .str _, rfl, _, rfl, ?_⟩
      rw [eqS]
      refine iteF ?_
      exact ⟨_, _, _, _, rfl, s05.trans s6⟩
    · obtain ⟨o2, o3, o4, o5, rfl, s0⟩ := hp
      exact q M s0
end

end R
namespace R
open PySem L2 Nm
open PyProof.Rows
def spDoors (K : PySem.W.Frag) (mg : Str → Option Value) (k : Nat) (AH : Hp → V → Prop) (G : PyData → Option (List PyData)) : Sp := fun vs H Q _ => ∃ al v l1 l2, vs = [.ref al, l1, l2] ∧ SqL K H al [v] ∧ spDoor K mg k AH G [v, l1, l2] H Q E0
section
variable {P : Program} {w : World} {K : PySem.W.Frag} {mg : Str → Option Value} {h : Heap} {fa : Addr} {base : Heap}
theorem doors_ok (kn : Kn P w K mg h fa) (TB : TBs K mg base) (k : Nat) {AH : Hp → V → Prop} {G : PyData → Option (List PyData)} (ho : AskOk P w K mg base (k + 1) AH G) : DefG P w K mg base (k + 3) "_law_doors_right" ["_law_asks", "_law_lists", "_law_others"] (spDoors K mg k AH G) := by
  obtain ⟨f, fd, a, FN, b⟩ := kn.d_law_doors_right
  have long : ∀ vs M Q E, spDoors K mg k AH G vs M Q E → vs.length = 3 := fun vs M Q E ⟨al, v, l1, l2, e, _⟩ => by rw [e]; rfl
  refine ⟨⟨f, fd, PySem.W.mg_of kn.X kn.G a, FN.kp, .all b, run_of FN sc_law_doors_right long fun cdv A outer s H vs Q E hg hr q => ?_⟩, long⟩
  obtain ⟨⟨f3, fd3, m3, k3, b3, F3⟩, long3⟩ := door_ok kn TB k ho
  have gd := gd_run kn TB (qual := "_law_doors_right") (cdv := cdv) (f := f) sc_law_doors_right (by decide) hg hr (outer := outer) (H := H) (E := E)
  obtain ⟨al, v, l1, l2, rfl, hs, v', l1', l2', xs, ys, zs, ws, ev, hA, fx, fy, hx, hy, tb, gx, gy, tz, tw, q⟩ := q
  cases ev
  refine ⟨_, pss_one (ps_ret (pe_callB (cr_all rfl) (by rfl) (kn.tab.bl _ bl_all) Nm.boot_all (pa_cons (lcD gd 3 (N := ["_law_asks", "_law_lists", "_law_others", "_law_ask"]) (sc := defScope s_law_doors_right) rfl rfl (by decide +kernel) (pe_var (i := 0) rfl (.inl rfl)) (by decide +kernel) fun s' H' C cl fp gb => pe_callG F3 long3 hg hr (by rw [Gl, gb.kind]; rfl) m3 k3 b3
    (pa_cons (pe_var (i := 3) rfl (by rw [gb.hsc]; exact .inl rfl)) (pa_cons (pe_var (i := 1) rfl (by rw [gb.hsc]; first | exact .inl rfl | exact .inr (.inl rfl) | exact .inr (.inr rfl))) (pa_cons (pe_var (i := 2) rfl (by rw [gb.hsc]; first | exact .inl rfl | exact .inr (.inl rfl) | exact .inr (.inr rfl))) pa_nil)))) pa_nil))), ?_⟩
  refine ⟨_, rfl, al, rfl, ⟨_, hs⟩, fun D hD => ?_⟩
  refine lc_list (xs := [v]) (g := gName 3) (tt := tYes) (te := fun s H Q => tCons (tVar 3) (tCons (tVar 1) (tCons (tVar 2) tNil)) s H fun vs H1 => spDoor K mg k AH G vs H1 Q E0) (fun i M => i = 0 ∧ M = upd H D (.lst []) ∨ i = 1 ∧ Nm.Same H M ∧ M D = some (.lst [.bl true])) (.inl ⟨rfl, rfl⟩) (fun i M hi hp => ?_) (fun i x M hxi hp => ?_) fun M hp => ?_
  · rcases hp with ⟨_, rfl⟩ | ⟨_, sm, _⟩
    · exact (same_new hD _).seq hs
    · exact sm.seq hs
  · rcases hp with ⟨rfl, rfl⟩ | ⟨rfl, _⟩
    · cases hxi
      have s0 : Nm.Same H (upd H D (.lst [])) := same_new hD _
      refine ⟨rfl, ?_⟩
      unfold tYes
      dsimp only
      rw [if_pos rfl]
      refine ⟨v, rfl, l1, rfl, l2, rfl, v, l1, l2, xs, ys, zs, ws, rfl, ho.mono hA s0, fx, fy, dp_mono s0 _ _ hx, dp_mono s0 _ _ hy, tb_mono s0 tb, gx, gy, tz, tw, fun H4 s4 => ?_⟩
      have hD4 : H4 D = some (.lst []) := s4.at upd_same
      exact ⟨[], hD4, by decide, .inr ⟨rfl, same_ext (s0.trans s4) (ext_upd hD4 trivial) hD, upd_same⟩⟩
    · cases hxi
  · rcases hp with ⟨z, _⟩ | ⟨_, sm, e⟩
    · cases z
    · exact ⟨D, [true], rfl, SqL.of e, q M sm⟩
/-! ### the lambdas -/
theorem askRun (kn : Kn P w K mg h fa) (TB : TBs K mg base) {k : Nat} (hk : 1 ≤ k) {L : LamD} {N ps fr : List Str} {cl : List (Str × Addr)} {f : Rho → Option (List PyData)} {e : Expr} {p1 p2 : Pos} (S : NdefX.NScope N ps fr L.scope)
    (hb : ∀ (pm ctv : Value) (c : Addr) (us : List Value), us.length = ps.length → bindArgs (PySem.W.kla_fn "<lambda>" L.qual L.params L.body L.scope cl pm (.ref c) ctv) ⟨us, []⟩ = pure (ps.zip us)) (hbody : L.body = .Call (.Name "_law_two" p1) [e] [] p2) (hgl : L.scope.names.lookup ("_law_two" : Str) = some .globalImplicit)
    (hse : ∀ env, starEach [e] env = [(false, eval e env)]) (okl : OkL (lamC T N (callAt k) k L) e f)
    {A : Around} {outer : List Env} {s : Shared} {H : Hp} {a c : Addr} {cq : Str} {u : V} {uu : Value} {zs : List PyData} {Q : VK} {ws : List (Option V)} {r : Rho} (room : Room (k + 1) A) (e0 : Env0 P w K mg base A outer s H) (ha : H a = some (LamC L cl a c)) (hc : H c = some (LamX.CodeO c cq))
    (C : NdefX.CellsAt cl fr ws s.heap H) (rel : RelV u uu) (hps : ps.length = 1) (rv : RV T K mg H (NdefX.startF N [u] ws) r) (hf : f r = some zs) (q : spAsk K zs H Q) : codeAny (model P w) A (.call (.ref a) ⟨[uu], []⟩) (CR CX0 outer P w H s Q E0) s := by
  obtain ⟨f2, fd2, m2, k2, b2, F2⟩ := (two_ok kn TB 0).ex
  have gd : Gd (lamC T N (callAt k) k L) (NdefX.ncx CX0 P w K mg base N ⟨"<lambda>", cq, L.params, [], L.scope, cl, c⟩ a A outer s H E0) :=
    ⟨rfl, rfl, rfl, room.deeper _, S.nd, kn.tab, kn.cal base TB k, kn.clo base TB, fun z => (by cases z), S.kind, fun z => (by cases z), fun z => (by cases z), fun z => (by cases z)⟩
  refine lamC_run (k := k) (N := N) (ps := ps) (fr := fr) (L := L) (cl := cl) (ws := ws) S hb room e0 ha hc C (.cons rel .nil) hps.symm (by
    rw [hbody]
    exact pe_call (F2.mono hk) gd.room ((gd.kind _).trans hgl) m2 k2 b2 .nil pass0 (pa_cons (runL gd r zs okl hf) pa_nil (hse _)) (by decide) (hse _) rfl) ?_
  refine ⟨rv, fun p us H1 np s1 e1 d1 => ⟨.ref p, rfl, fun t nt => ?_⟩⟩
  have st : Nm.Same H1 (upd H1 t (.tup [.ref p, .ref p])) := same_new nt _
  exact q t p us _ (s1.free nt) np (s1.trans st) upd_same (st.at e1) (dpa_mono st _ _ d1)
end

end R
namespace R
open PySem L2 Nm
open PyProof.Rows
abbrev Lm (i : Nat) : LamD := (lamAt "law" s_law i).getD lamNo
def argOf (L : LamD) : Expr := match L.body with
  | .Call _ (e :: _) _ _ => e
  | e => e
def AHn (n : Nat) : Hp → V → Prop := fun H v => ∃ a c q, v = .ref a ∧ H a = some (LamC (Lm n) [] a c) ∧ H c = some (LamX.CodeO c q)
def AH0 (lv : Int) : Hp → V → Prop := fun H v => ∃ a c q cell o u, v = .ref a ∧ H a = some (LamC (Lm 0) [("_law_leaves", cell)] a c) ∧ H c = some (LamX.CodeO c q) ∧ H cell = some (CellF cell o) ∧ o.data = .cell (some u) ∧ RelV (.int lv) u
def G1 (k : Nat) (d : PyData) : Option (List PyData) := lLst (aCons (cCall (callAt k) 12 (aCons (cOp2 wIx (cVar 0) (cI 0)) aNil)) aNil) [some (.w (.d d))]
def G2 (k : Nat) (d : PyData) : Option (List PyData) := lCall (callAt k) 10 (aCons (cVar 0) aNil) [some (.w (.d d))]
def G3 (k : Nat) (d : PyData) : Option (List PyData) := lCall (callAt k) 8 (aCons (cVar 0) aNil) [some (.w (.d d))]
def G0 (k : Nat) (lv : Int) (d : PyData) : Option (List PyData) := lLst (aCons (cCall (callAt k) 13 (aCons (cVar 1) (aCons (cOp2 wIx (cVar 0) (cI 0)) aNil))) aNil) [some (.w (.d d)), vI lv]
section
variable {P : Program} {w : World} {K : PySem.W.Frag} {mg : Str → Option Value} {h : Heap} {fa : Addr} {base : Heap}
theorem ahn_mono {n : Nat} {H H' : Hp} {v : V} : AHn n H v → Nm.Same H H' → AHn n H' v := fun ⟨a, c, q, e1, e2, e3⟩ s => ⟨a, c, q, e1, s.at e2 lamC_ne, s.at e3 LamX.codeO_ne⟩
theorem lamC_fn {P : Program} {w : World} {H : Hp} {h : Heap} {L : LamD} {cl : List (Str × Addr)} {a c : Addr} (ok : HOk P w H h) (e : H a = some (LamC L cl a c)) : PySem.W.FnAt a h := by
  obtain ⟨⟨od, sl, pm, ctv, ho⟩, _, _⟩ := ok a _ e
  exact ⟨_, od, _, sl, ho⟩
theorem ahn_at {n : Nat} {P : Program} {w : World} {H : Hp} {h : Heap} {v : V} (ok : HOk P w H h) : AHn n H v → ∃ a, v = .ref a ∧ PySem.W.FnAt a h := fun ⟨a, c, q, e1, e2, e3⟩ => ⟨a, e1, lamC_fn ok e2⟩
theorem noCells {H : Hp} {h : Heap} : NdefX.CellsAt [] [] [] h H := ⟨rfl, (fun y c e => nomatch e), (fun x y c e => nomatch e), (fun i y e => nomatch e)⟩
theorem rv_one {H : Hp} {u : V} {d : PyData} (hd : Nm.Dp K H u d) (tb : TbOk T K mg H) : RV T K mg H [some u] [some (.w (.d d))] := ⟨rfl, (fun i y e => match i, e with
  | 0, e => by cases e; exact ⟨u, rfl, hd⟩
  | i + 1, e => by cases e), tb⟩
theorem ask1 (kn : Kn P w K mg h fa) (TB : TBs K mg base) (k : Nat) (hk : 1 ≤ k) : AskOk P w K mg base (k + 1) (AHn 1) (G1 k) :=
  ⟨ahn_mono, ahn_at, fun {A outer s H a u uu d zs Q} hA room e0 rel hd tb hG q => by
    obtain ⟨a', c, cq, ea, e2, e3⟩ := hA
    cases ea
    have okl : OkL (lamC T ["_law_some"] (callAt k) k (Lm 1)) (argOf (Lm 1)) (lLst (aCons (cCall (callAt k) 12 (aCons (cOp2 wIx (cVar 0) (cI 0)) aNil)) aNil)) := (ok_lst (okA_cons (ok_call 12 rfl rfl rfl (okA_cons (ok_ix (ok_var (i := 0) rfl (.inl rfl)) ok_int) okA_nil)) okA_nil))
    exact askRun kn TB hk (L := Lm 1) (e := argOf (Lm 1)) (N := ["_law_some"]) (ps := ["_law_some"]) (fr := []) (ws := []) (NdefX.nscope_by (by decide +kernel)) (fun _ _ _ us hl => match us, hl with | [_], _ => rfl) rfl rfl (fun _ => rfl) okl room e0 e2 e3 noCells rel rfl (rv_one hd tb) hG q⟩
theorem ask2 (kn : Kn P w K mg h fa) (TB : TBs K mg base) (k : Nat) (hk : 1 ≤ k) : AskOk P w K mg base (k + 1) (AHn 2) (G2 k) :=
  ⟨ahn_mono, ahn_at, fun {A outer s H a u uu d zs Q} hA room e0 rel hd tb hG q => by
    obtain ⟨a', c, cq, ea, e2, e3⟩ := hA
    cases ea
    have okl : OkL (lamC T ["_law_this"] (callAt k) k (Lm 2)) (argOf (Lm 2)) (lCall (callAt k) 10 (aCons (cVar 0) aNil)) := (ok_callL 10 rfl rfl rfl (okA_cons (ok_var (i := 0) rfl (.inl rfl)) okA_nil))
    exact askRun kn TB hk (L := Lm 2) (e := argOf (Lm 2)) (N := ["_law_this"]) (ps := ["_law_this"]) (fr := []) (ws := []) (NdefX.nscope_by (by decide +kernel)) (fun _ _ _ us hl => match us, hl with | [_], _ => rfl) rfl rfl (fun _ => rfl) okl room e0 e2 e3 noCells rel rfl (rv_one hd tb) hG q⟩
theorem ask3 (kn : Kn P w K mg h fa) (TB : TBs K mg base) (k : Nat) (hk : 1 ≤ k) : AskOk P w K mg base (k + 1) (AHn 3) (G3 k) :=
  ⟨ahn_mono, ahn_at, fun {A outer s H a u uu d zs Q} hA room e0 rel hd tb hG q => by
    obtain ⟨a', c, cq, ea, e2, e3⟩ := hA
    cases ea
    have okl : OkL (lamC T ["_law_some"] (callAt k) k (Lm 3)) (argOf (Lm 3)) (lCall (callAt k) 8 (aCons (cVar 0) aNil)) := (ok_callL 8 rfl rfl rfl (okA_cons (ok_var (i := 0) rfl (.inl rfl)) okA_nil))
    exact askRun kn TB hk (L := Lm 3) (e := argOf (Lm 3)) (N := ["_law_some"]) (ps := ["_law_some"]) (fr := []) (ws := []) (NdefX.nscope_by (by decide +kernel)) (fun _ _ _ us hl => match us, hl with | [_], _ => rfl) rfl rfl (fun _ => rfl) okl room e0 e2 e3 noCells rel rfl (rv_one hd tb) hG q⟩
theorem ask0 (kn : Kn P w K mg h fa) (TB : TBs K mg base) (k : Nat) (hk : 1 ≤ k) (lv : Int) : AskOk P w K mg base (k + 1) (AH0 lv) (G0 k lv) :=
  ⟨fun ⟨a, c, q, cell, o, u, e1, e2, e3, e4, e5, e6⟩ s => ⟨a, c, q, cell, o, u, e1, s.at e2 lamC_ne, s.at e3 LamX.codeO_ne, s.at e4, e5, e6⟩, fun ok ⟨a, c, q, cell, o, u, e1, e2, _⟩ => ⟨a, e1, lamC_fn ok e2⟩, fun {A outer s H a u uu d zs Q} hA room e0 rel hd tb hG q => by
    obtain ⟨a', c, cq, cell, o, x, ea, e2, e3, e4, e5, e6⟩ := hA
    cases ea
    have hcf : cell ∉ frs outer := fun z => by
      have := e0.frf cell z
      rw [e4] at this
      cases this
    have hget := hok_get e0.hok e4
    have ne : ∀ {b : Addr} {v : HO}, H b = some v → v ≠ CellF cell o → b ≠ cell := fun h1 h2 z => by
      rw [z, e4] at h1
      exact h2 (Option.some.inj h1).symm
    refine cr_thaw (Q' := fun v H' => H' cell = none → Q v (upd H' cell (CellF cell o))) e4 hcf e0.hok ?_ fun v H' h1 h2 => h1 h2
    have C : NdefX.CellsAt [("_law_leaves", cell)] ["_law_leaves"] [some (.int lv)] s.heap (del H cell) := by
      have one : ∀ {y : Str} {c0 : Addr}, ([("_law_leaves", cell)] : List (Str × Addr)).lookup y = some c0 → y = "_law_leaves" ∧ c0 = cell := fun {y c0} e => by
        unfold List.lookup at e
        split at e
        · rename_i hq
          cases e
          exact ⟨by simpa using hq, rfl⟩
        · cases e
      refine ⟨rfl, fun y c0 e => ?_, fun y z c0 h1 h2 => by rw [(one h1).1, (one h2).1], fun i y e => ?_⟩
      · rw [(one e).2]
        exact ⟨del_at, some x, o, hget, e5⟩
      · match i, e with
        | 0, e => cases e; exact ⟨cell, rfl, fun v hv => by cases hv; exact ⟨x, e6, o, hget, e5⟩⟩
        | i + 1, e => cases e
    have okl : OkL (lamC T ["_law_some", "_law_leaves"] (callAt k) k (Lm 0)) (argOf (Lm 0)) (lLst (aCons (cCall (callAt k) 13 (aCons (cVar 1) (aCons (cOp2 wIx (cVar 0) (cI 0)) aNil))) aNil)) := (ok_lst (okA_cons (ok_call 13 rfl rfl rfl (okA_cons (ok_var (i := 1) rfl (.inr (.inr rfl))) (okA_cons (ok_ix (ok_var (i := 0) rfl (.inl rfl)) ok_int) okA_nil))) okA_nil))
    exact askRun kn TB hk (L := Lm 0) (e := argOf (Lm 0)) (N := ["_law_some", "_law_leaves"]) (ps := ["_law_some"]) (fr := ["_law_leaves"]) (ws := [some (.int lv)]) (r := [some (.w (.d d)), vI lv]) (NdefX.nscope_by (by decide +kernel)) (fun _ _ _ us hl => match us, hl with | [_], _ => rfl) rfl rfl (fun _ => rfl)
      okl room (env_del e0 e4) (by rw [del_ne (ne e2 (fun z => by unfold LamC at z; cases z))]; exact e2) (by rw [del_ne (ne e3 (fun z => by unfold LamX.CodeO at z; cases z))]; exact e3) C rel rfl
      ⟨rfl, (fun i y e => match i, e with
        | 0, e => by cases e; exact ⟨u, rfl, dp_del e4 _ _ hd⟩
        | 1, e => by cases e; exact ⟨_, rfl, Nm.Dp.int lv⟩
        | i + 2, e => by cases e), tb_del e4 tb⟩ hG fun t qq us H' nt nq sm et eq dd hn => by
        have tne : t ≠ cell := fun z => by rw [z, hn] at et; cases et
        have qne : qq ≠ cell := fun z => by rw [z, hn] at eq; cases eq
        exact q t qq us _ (by rw [del_ne tne] at nt; exact nt) (by rw [del_ne qne] at nq; exact nq) (same_thaw sm e4 hn) (by rw [upd_ne tne]; exact et) (by rw [upd_ne qne]; exact eq) (dpa_mono (same_new hn _) _ _ dd)⟩
end

end R
namespace R
open PySem L2 Nm
theorem is_between_ok (k : Nat) (hk : 1 ≤ k) (i a b : Int) : callAt k 0 [.d (.int i), .d (.int a), .d (.int b)] = some (.w (.d (.bool (decide (a ≤ i ∧ i ≤ b))))) := by
  obtain ⟨k, rfl⟩ : ∃ j, k = j + 1 := ⟨k - 1, by omega⟩
  rw [c_is_between]
  by_cases h : a ≤ i
  · simp only [runD, rho0, sSeq, sIf, sRet, sRetL, sRetO, sAsg, sAsgL, sAsgO, sAug, sPar, sNil, sNever, sBreak, sCont, cVar, rd, cD, cOp1, cOp2, cT, wB, qAnd, qOr, qNot, cAnd, cOr, cNot, cIf, aNil, aCons, wDs, cTup, lLst, cL, wII, wIC, wAdd, wLen, wIsi, isTup, isStr, isInt, isBool, isLst, cCall, lCall, val_w, val_fl, W.im, imm, imms, noOwn, wIx_t0, wIx_t1, wEq_int, wNe_int, List.length_cons, List.length_nil, List.map_cons, List.map_nil, List.replicate_succ, List.replicate_zero, List.cons_append, List.nil_append, List.append_nil, List.getElem?_cons_zero, List.getElem?_cons_succ, List.set_cons_zero, List.set_cons_succ, List.all_cons, List.all_nil, ↓reduceIte, Bool.or_true, Bool.true_or, Bool.or_false, Bool.false_or, Bool.and_true, Bool.true_and, Bool.and_false, Bool.false_and, Bool.not_true, Bool.not_false, if_true, if_false, Bool.false_eq_true, Nat.zero_add, Nat.add_zero, Nat.reduceAdd, Nat.reduceSub, Nat.reduceMul, Nat.reduceLeDiff, Nat.reduceEqDiff, Int.reduceAdd, Int.reduceSub, Int.reduceNeg, Int.reduceMul, Int.reduceLT, Int.reduceLE, Int.reduceEq, decide_true, decide_false, and_self, true_and, and_true, and_false, false_and, or_true, true_or, or_false, false_or, not_true_eq_false, not_false_eq_true, imm_d, cAtt_eq, cMake_eq, cMeth, vD, vI, vB, vS, vT, eq_self, wEq_fn, wNe_fn, wIsN, gNs, setNs, sUnp, sExpr, Int.cast_ofNat_Int, cMethD, free_w, free_none, free_own, free_od, orX_some, m_is_between, cCh, h]
  · simp only [runD, rho0, sSeq, sIf, sRet, sRetL, sRetO, sAsg, sAsgL, sAsgO, sAug, sPar, sNil, sNever, sBreak, sCont, cVar, rd, cD, cOp1, cOp2, cT, wB, qAnd, qOr, qNot, cAnd, cOr, cNot, cIf, aNil, aCons, wDs, cTup, lLst, cL, wII, wIC, wAdd, wLen, wIsi, isTup, isStr, isInt, isBool, isLst, cCall, lCall, val_w, val_fl, W.im, imm, imms, noOwn, wIx_t0, wIx_t1, wEq_int, wNe_int, List.length_cons, List.length_nil, List.map_cons, List.map_nil, List.replicate_succ, List.replicate_zero, List.cons_append, List.nil_append, List.append_nil, List.getElem?_cons_zero, List.getElem?_cons_succ, List.set_cons_zero, List.set_cons_succ, List.all_cons, List.all_nil, ↓reduceIte, Bool.or_true, Bool.true_or, Bool.or_false, Bool.false_or, Bool.and_true, Bool.true_and, Bool.and_false, Bool.false_and, Bool.not_true, Bool.not_false, if_true, if_false, Bool.false_eq_true, Nat.zero_add, Nat.add_zero, Nat.reduceAdd, Nat.reduceSub, Nat.reduceMul, Nat.reduceLeDiff, Nat.reduceEqDiff, Int.reduceAdd, Int.reduceSub, Int.reduceNeg, Int.reduceMul, Int.reduceLT, Int.reduceLE, Int.reduceEq, decide_true, decide_false, and_self, true_and, and_true, and_false, false_and, or_true, true_or, or_false, false_or, not_true_eq_false, not_false_eq_true, imm_d, cAtt_eq, cMake_eq, cMeth, vD, vI, vB, vS, vT, eq_self, wEq_fn, wNe_fn, wIsN, gNs, setNs, sUnp, sExpr, Int.cast_ofNat_Int, cMethD, free_w, free_none, free_own, free_od, orX_some, m_is_between, cCh, h]
abbrev KL : Nat := 227
def shwB (zs : List PyData) : Bool := (PyData.list zs).showable && (!(PyData.list zs).hasDict && (decide ((PyData.list zs).shown.length ≤ 100000) && decide ((PyData.list zs).depth ≤ 180)))
theorem shw_of {zs : List PyData} (h : shwB zs = true) : Shw zs := by
  unfold shwB at h
  simp only [Bool.and_eq_true, Bool.not_eq_true', decide_eq_true_eq] at h
  exact ⟨h.1, h.2.1, h.2.2.1, h.2.2.2⟩
def fA : List PyData := [.int 0, .int 1, .int 2]
def fB : List PyData := [.int 2, .int 1, .int 0]
def fC : List PyData := [.str "K", .str "S", .tuple [.int 1, .int 0]]
def fD : List PyData := [.str "S", .str "I", .tuple [.int 0, .int 1]]
def fE : List PyData := [.str "K", .tuple [.int 0, .int 0], .tuple [.int 1, .int 0], .tuple [.int 2, .int 2]]
def fF : List PyData := [.str "K", .tuple [.int 0, .int 0], .tuple [.int 0, .int 1], .tuple [.int 2, .int 1]]
theorem flA : Flat KL fA := ⟨rfl, by decide, by kernel_rfl, by kernel_rfl⟩
theorem flB : Flat KL fB := ⟨rfl, by decide, by kernel_rfl, by kernel_rfl⟩
theorem flC : Flat KL fC := ⟨rfl, by decide, by kernel_rfl, by kernel_rfl⟩
theorem flD : Flat KL fD := ⟨rfl, by decide, by kernel_rfl, by kernel_rfl⟩
theorem flE : Flat KL fE := ⟨rfl, by decide, by kernel_rfl, by kernel_rfl⟩
theorem flF : Flat KL fF := ⟨rfl, by decide, by kernel_rfl, by kernel_rfl⟩
def rC : PyData := .tuple [.str "S", .str "K"]
def rD : PyData := .tuple [.str "S", .str "I"]
def kk : PyData := .tuple [.str "K", .str "K"]
def rE : PyData := .tuple [.tuple [kk, .str "K"], .tuple [kk, .str "K"]]
def rF : PyData := .tuple [.tuple [.str "K", kk], kk]
theorem gC : G1 KL (.list [.list fC]) = some [rC] := by kernel_rfl
theorem gD : G1 KL (.list [.list fD]) = some [rD] := by kernel_rfl
theorem gE : G1 KL (.list [.list fE]) = some [rE] := by kernel_rfl
theorem gF : G1 KL (.list [.list fF]) = some [rF] := by kernel_rfl
theorem told1 {d : PyData} (h : shwB [d] = true) (s : callAt KL 18 [.d d] = some (.w (.d .none))) : Told KL [d] := ⟨shw_of h, (show 1 ≤ 90000 by decide), fun x hx => by rw [List.mem_singleton.mp hx]; exact s⟩
theorem tC : Told KL [rC] := told1 (by decide +kernel) (by kernel_rfl)
theorem tD' : Told KL [rD] := told1 (by decide +kernel) (by kernel_rfl)
theorem tE : Told KL [rE] := told1 (by decide +kernel) (by kernel_rfl)
theorem tF : Told KL [rF] := told1 (by decide +kernel) (by kernel_rfl)
/-! ### counts -/
theorem shwN : ∀ n : Nat, n < 200 → shwB [.int (3 * (3 * (3 * ((n : Int) + 3) - 1 - 0) - 1 - 1) - 1 - 2)] = true ∧ shwB [.int (3 * (3 * (3 * ((n : Int) + 3) - 1 - 2) - 1 - 1) - 1 - 0)] = true := by decide +kernel
theorem spoilt_int (y : Int) : callAt KL 18 [.d (.int y)] = some (.w (.d .none)) := by rfl
theorem plain3 (k : Nat) (lv a b c : Int) (h1 : 1 ≤ lv) (h2 : lv ≤ 1000) (ha : 0 ≤ a ∧ a ≤ lv) (hb : 0 ≤ b ∧ b ≤ lv) (hc : 0 ≤ c ∧ c ≤ lv) (hs : a + b + c ≤ lv) :
    callAt (k + 2) 13 [.d (.int lv), .d (.list [.int a, .int b, .int c])] = some (.w (.d (.int (3 * (3 * (3 * lv - 1 - a) - 1 - b) - 1 - c)))) := by
  have b0 := is_between_ok (k + 1) (by omega) lv 1 1000000000000000000000000000000
  rw [decide_eq_true (by omega)] at b0
  have b1 := is_between_ok (k + 1) (by omega) a 0 lv
  rw [decide_eq_true ha] at b1
  have b2 := is_between_ok (k + 1) (by omega) b 0 lv
  rw [decide_eq_true hb] at b2
  have b3 := is_between_ok (k + 1) (by omega) c 0 lv
  rw [decide_eq_true hc] at b3
  have m : ∀ x : Int, MulC 3 x := fun x => mulL x (by decide)
  have n1 : ¬ lv < [a, b, c].sum := by simp only [List.sum_cons, List.sum_nil]; omega
  rw [c_plain_room]
  simp only [runD, rho0, sSeq, sIf, sRet, sRetL, sRetO, sAsg, sAsgL, sAsgO, sAug, sPar, sNil, sNever, sBreak, sCont, cVar, rd, cD, cOp1, cOp2, cT, wB, qAnd, qOr, qNot, cAnd, cOr, cNot, cIf, aNil, aCons, wDs, cTup, lLst, cL, wII, wIC, wAdd, wLen, wIsi, isTup, isStr, isInt, isBool, isLst, cCall, lCall, val_w, val_fl, W.im, imm, imms, noOwn, wIx_t0, wIx_t1, wEq_int, wNe_int, List.length_cons, List.length_nil, List.map_cons, List.map_nil, List.replicate_succ, List.replicate_zero, List.cons_append, List.nil_append, List.append_nil, List.getElem?_cons_zero, List.getElem?_cons_succ, List.set_cons_zero, List.set_cons_succ, List.all_cons, List.all_nil, ↓reduceIte, Bool.or_true, Bool.true_or, Bool.or_false, Bool.false_or, Bool.and_true, Bool.true_and, Bool.and_false, Bool.false_and, Bool.not_true, Bool.not_false, if_true, if_false, Bool.false_eq_true, Nat.zero_add, Nat.add_zero, Nat.reduceAdd, Nat.reduceSub, Nat.reduceMul, Nat.reduceLeDiff, Nat.reduceEqDiff, Int.reduceAdd, Int.reduceSub, Int.reduceNeg, Int.reduceMul, Int.reduceLT, Int.reduceLE, Int.reduceEq, decide_true, decide_false, and_self, true_and, and_true, and_false, false_and, or_true, true_or, or_false, false_or, not_true_eq_false, not_false_eq_true, imm_d, cAtt_eq, cMake_eq, cMeth, vD, vI, vB, vS, vT, eq_self, wEq_fn, wNe_fn, wIsN, gNs, setNs, sUnp, sExpr, Int.cast_ofNat_Int, cMethD, free_w, free_none, free_own, free_od, orX_some, m_plain_room, x_plain_room, b0, b1, b2, b3, cAll, lComp, vL, compW, wipeR, gN, qYes, Nm.bls, id, wSum, its, n1, sFor, i_plain_room_1, itN, forW, b_plain_room_1, m, wSub, wMul]
theorem told_int {y : Int} (h : shwB [.int y] = true) : Told KL [.int y] := told1 h (spoilt_int y)
theorem gA (lv : Int) (h3 : 3 ≤ lv) (h2 : lv ≤ 1000) : G0 KL lv (.list [.list fA]) = some [.int (3 * (3 * (3 * lv - 1 - 0) - 1 - 1) - 1 - 2)] := by
  have h : callAt KL 13 [.d (.int lv), .d (.list [.int 0, .int 1, .int 2])] = some (.w (.d (.int (3 * (3 * (3 * lv - 1 - 0) - 1 - 1) - 1 - 2)))) := plain3 225 lv 0 1 2 (by omega) h2 (by omega) (by omega) (by omega) (by omega)
  have w0 : wIx (.d (.list [.list [.int 0, .int 1, .int 2]])) (.d (.int 0)) = some (.d (.list [.int 0, .int 1, .int 2])) := rfl
  unfold G0 fA
  simp only [runD, rho0, sSeq, sIf, sRet, sRetL, sRetO, sAsg, sAsgL, sAsgO, sAug, sPar, sNil, sNever, sBreak, sCont, cVar, rd, cD, cOp1, cOp2, cT, wB, qAnd, qOr, qNot, cAnd, cOr, cNot, cIf, aNil, aCons, wDs, cTup, lLst, cL, wII, wIC, wAdd, wLen, wIsi, isTup, isStr, isInt, isBool, isLst, cCall, lCall, val_w, val_fl, W.im, imm, imms, noOwn, wIx_t0, wIx_t1, wEq_int, wNe_int, List.length_cons, List.length_nil, List.map_cons, List.map_nil, List.replicate_succ, List.replicate_zero, List.cons_append, List.nil_append, List.append_nil, List.getElem?_cons_zero, List.getElem?_cons_succ, List.set_cons_zero, List.set_cons_succ, List.all_cons, List.all_nil, ↓reduceIte, Bool.or_true, Bool.true_or, Bool.or_false, Bool.false_or, Bool.and_true, Bool.true_and, Bool.and_false, Bool.false_and, Bool.not_true, Bool.not_false, if_true, if_false, Bool.false_eq_true, Nat.zero_add, Nat.add_zero, Nat.reduceAdd, Nat.reduceSub, Nat.reduceMul, Nat.reduceLeDiff, Nat.reduceEqDiff, Int.reduceAdd, Int.reduceSub, Int.reduceNeg, Int.reduceMul, Int.reduceLT, Int.reduceLE, Int.reduceEq, decide_true, decide_false, and_self, true_and, and_true, and_false, false_and, or_true, true_or, or_false, false_or, not_true_eq_false, not_false_eq_true, imm_d, cAtt_eq, cMake_eq, cMeth, vD, vI, vB, vS, vT, eq_self, wEq_fn, wNe_fn, wIsN, gNs, setNs, sUnp, sExpr, Int.cast_ofNat_Int, cMethD, free_w, free_none, free_own, free_od, orX_some, h, w0]
theorem gB (lv : Int) (h3 : 3 ≤ lv) (h2 : lv ≤ 1000) : G0 KL lv (.list [.list fB]) = some [.int (3 * (3 * (3 * lv - 1 - 2) - 1 - 1) - 1 - 0)] := by
  have h : callAt KL 13 [.d (.int lv), .d (.list [.int 2, .int 1, .int 0])] = some (.w (.d (.int (3 * (3 * (3 * lv - 1 - 2) - 1 - 1) - 1 - 0)))) := plain3 225 lv 2 1 0 (by omega) h2 (by omega) (by omega) (by omega) (by omega)
  have w0 : wIx (.d (.list [.list [.int 2, .int 1, .int 0]])) (.d (.int 0)) = some (.d (.list [.int 2, .int 1, .int 0])) := rfl
  unfold G0 fB
  simp only [runD, rho0, sSeq, sIf, sRet, sRetL, sRetO, sAsg, sAsgL, sAsgO, sAug, sPar, sNil, sNever, sBreak, sCont, cVar, rd, cD, cOp1, cOp2, cT, wB, qAnd, qOr, qNot, cAnd, cOr, cNot, cIf, aNil, aCons, wDs, cTup, lLst, cL, wII, wIC, wAdd, wLen, wIsi, isTup, isStr, isInt, isBool, isLst, cCall, lCall, val_w, val_fl, W.im, imm, imms, noOwn, wIx_t0, wIx_t1, wEq_int, wNe_int, List.length_cons, List.length_nil, List.map_cons, List.map_nil, List.replicate_succ, List.replicate_zero, List.cons_append, List.nil_append, List.append_nil, List.getElem?_cons_zero, List.getElem?_cons_succ, List.set_cons_zero, List.set_cons_succ, List.all_cons, List.all_nil, ↓reduceIte, Bool.or_true, Bool.true_or, Bool.or_false, Bool.false_or, Bool.and_true, Bool.true_and, Bool.and_false, Bool.false_and, Bool.not_true, Bool.not_false, if_true, if_false, Bool.false_eq_true, Nat.zero_add, Nat.add_zero, Nat.reduceAdd, Nat.reduceSub, Nat.reduceMul, Nat.reduceLeDiff, Nat.reduceEqDiff, Int.reduceAdd, Int.reduceSub, Int.reduceNeg, Int.reduceMul, Int.reduceLT, Int.reduceLE, Int.reduceEq, decide_true, decide_false, and_self, true_and, and_true, and_false, false_and, or_true, true_or, or_false, false_or, not_true_eq_false, not_false_eq_true, imm_d, cAtt_eq, cMake_eq, cMeth, vD, vI, vB, vS, vT, eq_self, wEq_fn, wNe_fn, wIsN, gNs, setNs, sUnp, sExpr, Int.cast_ofNat_Int, cMethD, free_w, free_none, free_own, free_od, orX_some, h, w0]
theorem tAB (lv : Int) (h3 : 3 ≤ lv) (h2 : lv < 203) : Told KL [.int (3 * (3 * (3 * lv - 1 - 0) - 1 - 1) - 1 - 2)] ∧ Told KL [.int (3 * (3 * (3 * lv - 1 - 2) - 1 - 1) - 1 - 0)] := by
  obtain ⟨n, rfl⟩ : ∃ n : Nat, lv = (n : Int) + 3 := ⟨(lv - 3).toNat, by omega⟩
  obtain ⟨h1, h2⟩ := shwN n (by omega)
  exact ⟨told_int h1, told_int h2⟩
/-! ### things told anew -/
def thA : List PyData := [.tuple [.int 0, .tuple [.int 3, .str "K"]], .tuple [.tuple [.int 5, .int 1], .int 1], .int 2]
def thB : List PyData := [.tuple [.tuple [.str "S", .str "K"], .tuple [.str "S", .str "K"]], .tuple [.str "K", .str "I"], .str "B"]
def allNo (zs : List PyData) : Bool := zs.all fun d => match callAt KL 18 [.d d] with | some (.w (.d .none)) => true | _ => false
theorem toldL {zs : List PyData} (h : shwB zs = true) (hl : zs.length ≤ 90000) (s : allNo zs = true) : Told KL zs := ⟨shw_of h, hl, fun d hd => by
  have := List.all_eq_true.mp s d hd
  split at this
  · assumption
  · cases this⟩
theorem thA3 : ∀ d ∈ thA, ∃ zs, G3 KL d = some zs ∧ Told KL zs := by
  intro d hd
  simp only [thA, List.mem_cons, List.not_mem_nil, or_false] at hd
  rcases hd with rfl | rfl | rfl
  · exact ⟨[.int 0, .int 3], by kernel_rfl, toldL (by decide +kernel) (by decide) (by kernel_rfl)⟩
  · exact ⟨[.int 1, .int 5], by kernel_rfl, toldL (by decide +kernel) (by decide) (by kernel_rfl)⟩
  · exact ⟨[.int 2], by kernel_rfl, toldL (by decide +kernel) (by decide) (by kernel_rfl)⟩
theorem thB3 : ∀ d ∈ thB, ∃ zs, G3 KL d = some zs ∧ Told KL zs := by
  intro d hd
  simp only [thB, List.mem_cons, List.not_mem_nil, or_false] at hd
  rcases hd with rfl | rfl | rfl <;> exact ⟨[], by kernel_rfl, toldL (by decide +kernel) (by decide) (by kernel_rfl)⟩
theorem thB2 : ∀ d ∈ thB, ∃ zs, G2 KL d = some zs ∧ Told KL zs := by
  intro d hd
  simp only [thB, List.mem_cons, List.not_mem_nil, or_false] at hd
  rcases hd with rfl | rfl | rfl
  · exact ⟨[.str "S", .str "K", .tuple [.int 0, .int 1], .tuple [.int 2, .int 2]], by kernel_rfl, toldL (by decide +kernel) (by decide) (by kernel_rfl)⟩
  · exact ⟨[.str "K", .str "I", .tuple [.int 0, .int 1]], by kernel_rfl, toldL (by decide +kernel) (by decide) (by kernel_rfl)⟩
  · exact ⟨[.str "B"], by kernel_rfl, toldL (by decide +kernel) (by decide) (by kernel_rfl)⟩
theorem leaves_at (k : Nat) (hk : 4 ≤ k) (ns : List Int) (hs : okScr ns) (i : Int) (h0 : 0 ≤ i) (h1 : i ≤ 10) (x2 x3 x4 : Option Sl) : ∃ z : Int, 0 ≤ z ∧ z < 200 ∧ cOp2 wAdd (cI 3) (cCall (callAt k) 16 (aCons (cCall (callAt k) 14 (aCons (cVar 0) (aCons (cVar 1) aNil))) (aCons (cOp2 wAdd (cVar 1) (cI 1)) (aCons (cI 200) aNil)))) [some (.w (scr ns)), vI i, x2, x3, x4] = some (.d (.int (3 + z))) := by
  obtain ⟨c, _, hc⟩ := cell_ok hs k (by omega) i h0
  obtain ⟨z, z0, z1, hz⟩ := number_ok k (by omega) c (i + 1) 200 (by omega) (by omega) (by decide)
  exact ⟨z, z0, z1, by simp only [runD, rho0, sSeq, sIf, sRet, sRetL, sRetO, sAsg, sAsgL, sAsgO, sAug, sPar, sNil, sNever, sBreak, sCont, cVar, rd, cD, cOp1, cOp2, cT, wB, qAnd, qOr, qNot, cAnd, cOr, cNot, cIf, aNil, aCons, wDs, cTup, lLst, cL, wII, wIC, wAdd, wLen, wIsi, isTup, isStr, isInt, isBool, isLst, cCall, lCall, val_w, val_fl, W.im, imm, imms, noOwn, wIx_t0, wIx_t1, wEq_int, wNe_int, List.length_cons, List.length_nil, List.map_cons, List.map_nil, List.replicate_succ, List.replicate_zero, List.cons_append, List.nil_append, List.append_nil, List.getElem?_cons_zero, List.getElem?_cons_succ, List.set_cons_zero, List.set_cons_succ, List.all_cons, List.all_nil, ↓reduceIte, Bool.or_true, Bool.true_or, Bool.or_false, Bool.false_or, Bool.and_true, Bool.true_and, Bool.and_false, Bool.false_and, Bool.not_true, Bool.not_false, if_true, if_false, Bool.false_eq_true, Nat.zero_add, Nat.add_zero, Nat.reduceAdd, Nat.reduceSub, Nat.reduceMul, Nat.reduceLeDiff, Nat.reduceEqDiff, Int.reduceAdd, Int.reduceSub, Int.reduceNeg, Int.reduceMul, Int.reduceLT, Int.reduceLE, Int.reduceEq, decide_true, decide_false, and_self, true_and, and_true, and_false, false_and, or_true, true_or, or_false, false_or, not_true_eq_false, not_false_eq_true, imm_d, cAtt_eq, cMake_eq, cMeth, vD, vI, vB, vS, vT, eq_self, wEq_fn, wNe_fn, wIsN, gNs, setNs, sUnp, sExpr, Int.cast_ofNat_Int, cMethD, free_w, free_none, free_own, free_od, orX_some, hc, hz]⟩

end R
namespace R
open PySem L2 Nm
open PyProof.Rows
theorem pe_ex {X : Cx} {e : Expr} {α : Type} {t : α → TE} (h : ∀ a, PE X e (t a)) : PE X e (fun s H Q => ∃ a, t a s H Q) := ⟨fun pins s σ H Q I ⟨a, q⟩ => (h a).run pins s σ H Q I q⟩
theorem pe_lamL {X : Cx} {cd Pt : Addr} {params : Arguments} {body : Expr} {scope sc : Scope} {pos : Pos} {q : Str} (L : LamD) (cl : List (Str × Addr)) (TB : LamX.TabB X.base X.mg cd Pt) (hcode : X.env.code = .ref cd) (hq : X.env.qual = q ++ ".<locals>.") (hsc : X.env.scope = sc) (hL : L = ⟨q ++ ".<locals>." ++ "<lambda>", params, body, scope⟩)
    (hall : (scope.names.all fun y => !decide (y.2 = .free) || decide (sc.names.lookup y.1 = some .cell)) = true) (hcl : cloFrom X.env.cells scope.names [] = cl) (hdef : defaultsOf params X.env = ([], []) := by rfl) :
    PE X (.Lambda params body scope pos) (fun _ H Q => TabA H Pt ∧ ∀ f c' q H1, Nm.Same H H1 → H f = none → H1 f = some (LamC L cl f c') → H1 c' = some (LamX.CodeO c' q) → Q (.ref f) H1) := by
  have h := pe_lamC (X := X) (pos := pos) (params := params) (body := body) (scope := scope) TB hcode hdef fun y hy e => .inl (by
    have := List.all_eq_true.mp hall y hy
    rw [hsc]
    simpa [e] using this)
  rw [hq, ← hL, hcl] at h
  exact h
theorem runBk {c : C0} {X : Cx} {e : Expr} {f : Rho → Option W} {scope : Scope} {s : Shared} {H : Hp} {C : Addr} {cl : List (Str × Addr)} {fp : List Addr} (gb : Gd (cBk c scope) (X.blk s H scope (compEnvC scope cl C X.env) fp)) (r : Rho) (w : W) (h : OkE (cBk c scope) e f) (k : f r = some w) : PE (X.blk s H scope (compEnvC scope cl C X.env) fp) e (tD c.T X r w) := runE gb r w h k
theorem rv_none {K : PySem.W.Frag} {mg : Str → Option Value} {M : Hp} {a b c d e : Option V} (tb : TbOk T K mg M) : RV T K mg M [a, b, c, d, e] [none, none, none, none, none] := ⟨rfl, (fun i y h => match i, h with
  | 0, h => by cases h
  | 1, h => by cases h
  | 2, h => by cases h
  | 3, h => by cases h
  | 4, h => by cases h
  | i + 5, h => by cases h), tb⟩
abbrev r0 : Rho := [none, none, none, none, none]
theorem main {P : Program} {w : World} {K : PySem.W.Frag} {mg : Str → Option Value} {h : Heap} {fa : Addr} (kn : Kn P w K mg h fa) : Goal P w K mg fa := by
  have hd := kn.d_law
  obtain ⟨f, fd, an, FN, b⟩ := hd
  have ef := PySem.W.mg_of kn.X kn.G an
  rw [kn.hfa] at ef
  cases ef
  refine ⟨fd, fun s u => .of_eq (b [u] rfl), fun base _ _ TB => run_ofC FN sc_law (fun vs M Q E ⟨a, ns, e, _⟩ => by rw [e]; rfl) fun cdv A outer s H vs Q E hcd hg hr q => ?_⟩
  have gd : Gd ⟨T, ["_law_script", "_law_by", "_law_leaves", "_law_asks", "_law_ask"], callAt LK, LK, defScope s_law, true, true, "law"⟩ (cxOf CX0 P w K mg base ["_law_script", "_law_by", "_law_leaves", "_law_asks", "_law_ask"] "law" (defScope s_law) fa cdv A outer s H E).nox :=
    ⟨rfl, rfl, rfl, hr, sc_law.nd, kn.tab, kn.cal base TB LK, kn.clo base TB, fun _ _ => rfl, sc_law.kind, fun _ => hg, fun _ => ⟨rfl, rfl, rfl⟩, fun _ => lw_of FN (fun hm => ⟨kn.hfa, kn.lt _ hm⟩) hcd⟩
  obtain ⟨a, ns, rfl, hS, h63, hbits, tb, q⟩ := q
  have hs : okScr ns := ⟨h63, hbits⟩
  obtain ⟨hqu, hlw⟩ := gd.lw rfl
  obtain ⟨cd, Pt, hcode, htab⟩ := hlw lk_law
  have TBl := TB _ (lkc_mem lk_law htab)
  have hTab : ∀ {M : Hp}, TbOk T K mg M → TabA M Pt := fun t => t _ lk_law cd Pt htab
  have nx := sc_law.nd
  have hr2 : Room (KL + 2) _ := hr.mono (show KL + 2 ≤ LK by decide)
  obtain ⟨⟨f1, fd1, m1, k1, b1, F1⟩, long1⟩ := doors_ok kn TB KL (ask1 kn TB KL (by decide))
  obtain ⟨⟨f2, fd2, m2, k2, b2, F2⟩, long2⟩ := new_ok kn TB KL (ask2 kn TB KL (by decide))
  obtain ⟨⟨f3, fd3, m3, k3, b3, F3⟩, long3⟩ := new_ok kn TB KL (ask3 kn TB KL (by decide))
  refine ⟨_, pss_cons (ps_for PassesOwn.never rfl (pi_range1 (by rfl) (kn.tab.bl _ bl_range) (pa_cons pe_int pa_nil)) (pg_name (i := 1) nx rfl (.inl rfl))
      (pss_cons (ps_set (i := 2) nx rfl (.inr rfl) (runEx gd (ok_add ok_int (ok_call 16 rfl rfl rfl (okA_cons (ok_call 14 rfl rfl rfl (okA_cons (ok_var (i := 0) rfl (.inl rfl)) (okA_cons (ok_var (i := 1) rfl (.inl rfl)) okA_nil))) (okA_cons (ok_add (ok_var (i := 1) rfl (.inl rfl)) ok_int) (okA_cons ok_int okA_nil)))))))
      (pss_cons (ps_set (i := 3) nx rfl (.inl rfl) (pe_lst (pa_cons (pe_lamL (sc := defScope s_law) (Lm 0) [("_law_leaves", s.heap.objs.size + 1)] TBl hcode hqu rfl rfl (by decide +kernel) rfl) pa_nil)))
      (pss_one (ps_if (pt_not (pt_val (pe_ex fun lv => by
        obtain ⟨⟨f0, fd0, m0, k0, b0, F0⟩, long0⟩ := doors_ok kn TB KL (ask0 kn TB KL (by decide) lv)
        exact pe_callGC (y := "_law_leaves") (cell := s.heap.objs.size + 1) (i := 2) F0 long0 hg hr (by rfl) m0 k0 b0 rfl rfl rfl rfl (pa_cons (pe_var (i := 3) rfl (.inl rfl)) (pa_cons (runE gd r0 (.d (.list [.list fA])) (ok_L (ok_lst (okA_cons (ok_L (ok_lst (okA_cons ok_int (okA_cons ok_int (okA_cons ok_int okA_nil))))) okA_nil))) rfl) (pa_cons (runE gd r0 (.d (.list [.list fB])) (ok_L (ok_lst (okA_cons (ok_L (ok_lst (okA_cons ok_int (okA_cons ok_int (okA_cons ok_int okA_nil))))) okA_nil))) rfl) pa_nil)))))) pss_never pss_nil)))))
    (pss_cons (ps_set (i := 3) nx rfl (.inl rfl) (pe_lst (pa_cons (pe_lamL (sc := defScope s_law) (Lm 1) [] TBl hcode hqu rfl rfl (by decide +kernel) rfl) pa_nil)))
    (pss_cons (ps_if (pt_not (pt_val (pe_callG F1 long1 hg hr (by rfl) m1 k1 b1 (pa_cons (pe_var (i := 3) rfl (.inl rfl)) (pa_cons (runE gd r0 (.d (.list [.list fC])) (ok_L (ok_lst (okA_cons (ok_L (ok_lst (okA_cons ok_str (okA_cons ok_str (okA_cons (ok_tup (okA_cons ok_int (okA_cons ok_int okA_nil))) okA_nil))))) okA_nil))) rfl) (pa_cons (runE gd r0 (.d (.list [.list fD])) (ok_L (ok_lst (okA_cons (ok_L (ok_lst (okA_cons ok_str (okA_cons ok_str (okA_cons (ok_tup (okA_cons ok_int (okA_cons ok_int okA_nil))) okA_nil))))) okA_nil))) rfl) pa_nil)))))) pss_never pss_nil)
    (pss_cons (ps_if (pt_not (pt_val (pe_callG F1 long1 hg hr (by rfl) m1 k1 b1 (pa_cons (pe_var (i := 3) rfl (.inl rfl)) (pa_cons (runE gd r0 (.d (.list [.list fE])) (ok_L (ok_lst (okA_cons (ok_L (ok_lst (okA_cons ok_str (okA_cons (ok_tup (okA_cons ok_int (okA_cons ok_int okA_nil))) (okA_cons (ok_tup (okA_cons ok_int (okA_cons ok_int okA_nil))) (okA_cons (ok_tup (okA_cons ok_int (okA_cons ok_int okA_nil))) okA_nil)))))) okA_nil))) rfl) (pa_cons (runE gd r0 (.d (.list [.list fF])) (ok_L (ok_lst (okA_cons (ok_L (ok_lst (okA_cons ok_str (okA_cons (ok_tup (okA_cons ok_int (okA_cons ok_int okA_nil))) (okA_cons (ok_tup (okA_cons ok_int (okA_cons ok_int okA_nil))) (okA_cons (ok_tup (okA_cons ok_int (okA_cons ok_int okA_nil))) okA_nil)))))) okA_nil))) rfl) pa_nil)))))) pss_never pss_nil)
    (pss_cons (ps_set (i := 3) nx rfl (.inl rfl) (pe_lst (pa_cons (pe_lamL (sc := defScope s_law) (Lm 2) [] TBl hcode hqu rfl rfl (by decide +kernel) rfl) (pa_cons (pe_lamL (sc := defScope s_law) (Lm 3) [] TBl hcode hqu rfl rfl (by decide +kernel) rfl) pa_nil))))
    (pss_cons (ps_if (pt_not (pt_val (pe_callG F3 long3 hg hr2 (by rfl) m3 k3 b3 (pa_cons (pe_ix ix_seq (pe_var (i := 3) rfl (.inl rfl)) pe_int (by intro _ _; rfl)) (pa_cons (runE gd r0 (.d (.list thA)) (ok_L (ok_lst (okA_cons (ok_tup (okA_cons ok_int (okA_cons (ok_tup (okA_cons ok_int (okA_cons ok_str okA_nil))) okA_nil))) (okA_cons (ok_tup (okA_cons (ok_tup (okA_cons ok_int (okA_cons ok_int okA_nil))) (okA_cons ok_int okA_nil))) (okA_cons ok_int okA_nil))))) rfl) pa_nil))))) pss_never pss_nil)
    (pss_one (ps_ret (pe_callB (cr_all rfl) (by rfl) (kn.tab.bl _ bl_all) Nm.boot_all (pa_cons (lcD gd 4 (N := ["_law_script", "_law_by", "_law_leaves", "_law_asks", "_law_ask"]) (sc := defScope s_law) rfl rfl (by decide +kernel) (pe_var (i := 3) rfl (.inl rfl)) (by decide +kernel) fun s' H' C cl fp gb => pe_or2
      (pe_callG F2 long2 hg hr2 (by rw [Gl, gb.kind]; rfl) m2 k2 b2 (pa_cons (pe_var (i := 4) rfl (by rw [gb.hsc]; exact .inl rfl)) (pa_cons (runBk gb r0 (.d (.list thB)) (ok_L (ok_lst (okA_cons (ok_tup (okA_cons (ok_tup (okA_cons ok_str (okA_cons ok_str okA_nil))) (okA_cons (ok_tup (okA_cons ok_str (okA_cons ok_str okA_nil))) okA_nil))) (okA_cons (ok_tup (okA_cons ok_str (okA_cons ok_str okA_nil))) (okA_cons ok_str okA_nil))))) rfl) pa_nil)))
      (pe_callG F3 long3 hg hr2 (by rw [Gl, gb.kind]; rfl) m3 k3 b3 (pa_cons (pe_var (i := 4) rfl (by rw [gb.hsc]; exact .inl rfl)) (pa_cons (runBk gb r0 (.d (.list thB)) (ok_L (ok_lst (okA_cons (ok_tup (okA_cons (ok_tup (okA_cons ok_str (okA_cons ok_str okA_nil))) (okA_cons (ok_tup (okA_cons ok_str (okA_cons ok_str okA_nil))) okA_nil))) (okA_cons (ok_tup (okA_cons ok_str (okA_cons ok_str okA_nil))) (okA_cons ok_str okA_nil))))) rfl) pa_nil)))) pa_nil))))))))), ?_⟩
  refine ⟨2, rfl, by decide, by decide, ?_⟩
  have scr0 : ∀ {M : Hp}, Nm.Same H M → Nm.Dp K M (.ref a) (.list (ns.map .int)) := fun sm => .lst (sm.seq hS) (dpa_ints ns)
  refine for_range (lo := 0) (n := Int.toNat 2) (fun i σ M => ∃ o1 o2 o3, σ = [some (.ref a), o1, o2, o3, none] ∧ Nm.Same H M) ⟨none, none, none, rfl, Nm.Same.refl H⟩ (fun i σ M hi hp => ?_) fun σ M hp => ?_
  · obtain ⟨o1, o2, o3, rfl, s0⟩ := hp
    have hi2 : i < 2 := hi
    obtain ⟨z, z0, z1, hz⟩ := leaves_at LK (by decide) ns hs (0 + (i : Int)) (by omega) (by omega) none none none
    refine ⟨_, _, hz, ⟨rfl, (fun j y e => match j, e with
      | 0, e => by cases e; exact ⟨_, rfl, scr0 s0⟩
      | 1, e => by cases e; exact ⟨_, rfl, Nm.Dp.int _⟩
      | 2, e => by cases e
      | 3, e => by cases e
      | 4, e => by cases e
      | j + 5, e => by cases e), tb_mono s0 tb⟩, fun v1 M1 s1 hv1 => ?_⟩
    have hv1 : Nm.Dp K M1 v1 (.int (3 + z)) := hv1
    cases hv1
    have s01 := s0.trans s1
    refine ⟨hTab (tb_mono s01 tb), fun lf lc lq M2 s2 nf e1 e2 => ⟨(show 1 ≤ sizeLine by decide), fun p np => ?_⟩⟩
    have s3 : Nm.Same M2 (upd M2 p (.lst [.ref lf])) := same_new np _
    have s03 := s01.trans (s2.trans s3)
    refine ⟨3 + z, .ref p, rfl, rv_none (tb_mono s03 tb), fun v2 M4 s4 hv2 => ⟨rv_none (tb_mono (s03.trans s4) tb), fun v3 M5 s5 hv3 => ⟨.int (3 + z), rfl, fun o u nc hdat hrel => ?_⟩⟩⟩
    have s05 := s03.trans (s4.trans s5)
    have sc : Nm.Same M5 (upd M5 (s.heap.objs.size + 1) (CellF (s.heap.objs.size + 1) o)) := same_new nc _
    have s45 := s4.trans s5
    have hp5 : M5 p = some (.lst [.ref lf]) := s45.at upd_same
    have tl := tAB (3 + z) (by omega) (by omega)
    refine ⟨p, .ref lf, v2, v3, rfl, SqL.of (sc.at hp5), .ref lf, v2, v3, fA, fB, _, _, rfl, ⟨lf, lc, lq, _, o, u, rfl, sc.at ((s3.trans s45).at e1 lamC_ne) lamC_ne, sc.at ((s3.trans s45).at e2 LamX.codeO_ne) LamX.codeO_ne, upd_same, hdat, hrel⟩, flA, flB, dp_mono (s5.trans sc) _ _ hv2, dp_mono sc _ _ hv3, tb_mono (s05.trans sc) tb, gA _ (by omega) (by omega), gB _ (by omega) (by omega), tl.1, tl.2, fun M6 s6 => ⟨true, rfl, iteF ?_⟩⟩
    exact ⟨_, _, _, rfl, s05.trans (same_hold nc s6)⟩
  · obtain ⟨o1, o2, o3, rfl, s0⟩ := hp
    refine ⟨hTab (tb_mono s0 tb), fun lf lc lq M1 s1 nf e1 e2 => ⟨(show 1 ≤ sizeLine by decide), fun p np => ?_⟩⟩
    have sp : Nm.Same M1 (upd M1 p (.lst [.ref lf])) := same_new np _
    have s01 := s0.trans (s1.trans sp)
    have hA : AHn 1 (upd M1 p (.lst [.ref lf])) (.ref lf) := ⟨lf, lc, lq, rfl, sp.at e1 lamC_ne, sp.at e2 LamX.codeO_ne⟩
    refine ⟨.ref p, rfl, rv_none (tb_mono s01 tb), fun v2 M2 s2 hv2 => ⟨rv_none (tb_mono (s01.trans s2) tb), fun v3 M3 s3 hv3 => ?_⟩⟩
    have s03 := s01.trans (s2.trans s3)
    refine ⟨p, .ref lf, v2, v3, rfl, SqL.of ((s2.trans s3).at upd_same), .ref lf, v2, v3, fC, fD, _, _, rfl, ahn_mono hA (s2.trans s3), flC, flD, dp_mono s3 _ _ hv2, hv3, tb_mono s03 tb, gC, gD, R.tC, tD', fun M4 s4 => ⟨true, rfl, iteF ?_⟩⟩
    have s14 := s2.trans (s3.trans s4)
    have s04 := s01.trans s14
    refine ⟨.ref p, rfl, rv_none (tb_mono s04 tb), fun v5 M5 s5 hv5 => ⟨rv_none (tb_mono (s04.trans s5) tb), fun v6 M6 s6 hv6 => ?_⟩⟩
    have s16 := s14.trans (s5.trans s6)
    have s06 := s01.trans s16
    refine ⟨p, .ref lf, v5, v6, rfl, SqL.of (s16.at upd_same), .ref lf, v5, v6, fE, fF, _, _, rfl, ahn_mono hA s16, flE, flF, dp_mono s6 _ _ hv5, hv6, tb_mono s06 tb, gE, gF, tE, tF, fun M7 s7 => ⟨true, rfl, iteF ?_⟩⟩
    have s07 := s06.trans s7
    refine ⟨hTab (tb_mono s07 tb), fun g2 c2 q2 M8 s8 nf2 e3 e4 => ⟨hTab (tb_mono (s07.trans s8) tb), fun g3 c3 q3 M9 s9 nf3 e5 e6 => ⟨(show 2 ≤ sizeLine by decide), fun p2 np2 => ?_⟩⟩⟩
    have sp2 : Nm.Same M9 (upd M9 p2 (.lst [.ref g2, .ref g3])) := same_new np2 _
    have s010 := s07.trans (s8.trans (s9.trans sp2))
    have hA2 : AHn 2 (upd M9 p2 (.lst [.ref g2, .ref g3])) (.ref g2) := ahn_mono ⟨g2, c2, q2, rfl, e3, e4⟩ (s9.trans sp2)
    have hA3 : AHn 3 (upd M9 p2 (.lst [.ref g2, .ref g3])) (.ref g3) := ahn_mono ⟨g3, c3, q3, rfl, e5, e6⟩ sp2
    refine ⟨.ref p2, rfl, .inl ⟨p2, [.ref g2, .ref g3], 1, .ref g3, rfl, rfl, SqL.of upd_same, rfl, ?_⟩⟩
    refine ⟨rv_none (tb_mono s010 tb), fun v11 M11 s11 hv11 => ⟨.ref g3, v11, thA, rfl, ahn_mono hA3 s11, hv11, tb_mono (s010.trans s11) tb, thA3, fun M12 s12 => ⟨true, rfl, iteF ?_⟩⟩⟩
    have s1012 := s11.trans s12
    have s012 := s010.trans s1012
    have hp2 := s1012.at (upd_same (a := p2) (o := .lst [.ref g2, .ref g3]))
    refine ⟨.ref p2, rfl, p2, rfl, ⟨_, SqL.of hp2⟩, fun D hD => ?_⟩
    refine lc_list (xs := [V.ref g2, .ref g3]) (g := gName 4) (tt := tYes) (te := fun s H Q => (tCons (tVar 4) (tCons (Nm.tD T _ r0 (.d (.list thB))) tNil) s H fun vs H1 => spNew K mg KL (AHn 2) (G2 KL) vs H1 Q E0) ∨ (tCons (tVar 4) (tCons (Nm.tD T _ r0 (.d (.list thB))) tNil) s H fun vs H1 => spNew K mg KL (AHn 3) (G3 KL) vs H1 Q E0))
      (fun i M => Nm.Same M12 M ∧ M D = some (.lst (List.replicate i (.bl true)))) ⟨same_new hD _, upd_same⟩ (fun i M hi hp => SqL.of (hp.1.at hp2)) (fun i x M hxi hp => ?_) fun M hp => ?_
    · obtain ⟨sm, eD⟩ := hp
      refine ⟨rfl, ?_⟩
      unfold tYes
      dsimp only
      rw [if_pos rfl]
      have s0M := s012.trans sm
      have fin : ∀ {M13 M14 : Hp}, Nm.Same M M13 → Nm.Same M13 M14 → i < 2 → ∃ acc, M14 D = some (.lst acc) ∧ acc.length < sizeLine ∧ (Nm.Same M12 (upd M14 D (.lst (acc ++ [V.bl true]))) ∧ upd M14 D (.lst (acc ++ [V.bl true])) D = some (.lst (List.replicate (i + 1) (.bl true)))) := fun {M13 M14} sa sb hi => by
        have e14 := (sa.trans sb).at eD
        refine ⟨_, e14, by rw [List.length_replicate]; exact Nat.lt_of_lt_of_le hi (by decide), same_ext (sm.trans (sa.trans sb)) (ext_upd e14 trivial) hD, ?_⟩
        rw [upd_same, List.replicate_succ']
      match i, hxi with
      | 0, e =>
        cases e
        exact .inl ⟨_, rfl, rv_none (tb_mono s0M tb), fun v13 M13 s13 hv13 => ⟨_, v13, thB, rfl, ahn_mono hA2 (s1012.trans (sm.trans s13)), hv13, tb_mono (s0M.trans s13) tb, thB2, fun M14 s14 => fin s13 s14 (by decide)⟩⟩
      | 1, e =>
        cases e
        exact .inr ⟨_, rfl, rv_none (tb_mono s0M tb), fun v13 M13 s13 hv13 => ⟨_, v13, thB, rfl, ahn_mono hA3 (s1012.trans (sm.trans s13)), hv13, tb_mono (s0M.trans s13) tb, thB3, fun M14 s14 => fin s13 s14 (by decide)⟩⟩
      | i + 2, e => cases e
    · exact ⟨D, [true, true], rfl, SqL.of hp.2, q _⟩

end R
namespace R
open PySem L2 Nm
def tms : List Nat := [34]
def fcs0 : List Fc := [Fc.int "GREATEST" 1000000000000000000000000000000,
  Fc.int "LARGEST" 200,
  Fc.str "MAKERS" "BCIKS",
  Fc.int "MOST" 300,
  Fc.int "MOST_NAMES" 200,
  Fc.free "str",
  Fc.free "zip",
  Fc.free "all",
  Fc.free "range",
  Fc.free "isinstance",
  Fc.free "list",
  Fc.free "tuple",
  Fc.free "int",
  Fc.free "bool",
  Fc.free "len",
  Fc.free "sorted",
  Fc.free "set",
  Fc.free "enumerate",
  Fc.free "sum",
  Fc.glo "OutError" 0]
def fcs1 : List Fc := [Fc.exc 0,
  Fc.glo "BadTerm" 1,
  Fc.exc 1,
  Fc.glo "BadNumber" 2,
  Fc.exc 2,
  Fc.glo "BadPieces" 3,
  Fc.exc 3,
  Fc.glo "TooMany" 4,
  Fc.exc 4,
  Fc.sub 0 0 true,
  Fc.kit 0 0 true,
  Fc.sub 0 1 false,
  Fc.kit 0 1 false,
  Fc.sub 0 2 false,
  Fc.kit 0 2 false,
  Fc.sub 0 3 false,
  Fc.kit 0 3 false,
  Fc.sub 0 4 false,
  Fc.kit 0 4 false,
  Fc.sub 1 0 true]
def fcs2 : List Fc := [Fc.kit 1 0 true,
  Fc.sub 1 1 true,
  Fc.kit 1 1 true,
  Fc.sub 1 2 false,
  Fc.kit 1 2 false,
  Fc.sub 1 3 false,
  Fc.kit 1 3 false,
  Fc.sub 1 4 false,
  Fc.kit 1 4 false,
  Fc.sub 2 0 true,
  Fc.kit 2 0 true,
  Fc.sub 2 1 false,
  Fc.kit 2 1 false,
  Fc.sub 2 2 true,
  Fc.kit 2 2 true,
  Fc.sub 2 3 false,
  Fc.kit 2 3 false,
  Fc.sub 2 4 false,
  Fc.kit 2 4 false,
  Fc.sub 3 0 true]
def fcs3 : List Fc := [Fc.kit 3 0 true,
  Fc.sub 3 1 false,
  Fc.kit 3 1 false,
  Fc.sub 3 2 false,
  Fc.kit 3 2 false,
  Fc.sub 3 3 true,
  Fc.kit 3 3 true,
  Fc.sub 3 4 false,
  Fc.kit 3 4 false,
  Fc.sub 4 0 true,
  Fc.kit 4 0 true,
  Fc.sub 4 1 false,
  Fc.kit 4 1 false,
  Fc.sub 4 2 false,
  Fc.kit 4 2 false,
  Fc.sub 4 3 false,
  Fc.kit 4 3 false,
  Fc.sub 4 4 true,
  Fc.kit 4 4 true,
  Fc.glo "is_between" 7]
def fcs4 : List Fc := [Fc.code (7, none) "is_between",
  Fc.keep 7,
  Fc.glo "is_maker" 8,
  Fc.code (8, none) "is_maker",
  Fc.keep 8,
  Fc.glo "is_name" 9,
  Fc.code (9, none) "is_name",
  Fc.keep 9,
  Fc.glo "is_term" 10,
  Fc.code (10, none) "is_term",
  Fc.keep 10,
  Fc.glo "check_term" 11,
  Fc.code (11, none) "check_term",
  Fc.keep 11,
  Fc.glo "is_row" 12,
  Fc.code (12, none) "is_row",
  Fc.keep 12,
  Fc.glo "check_row" 13,
  Fc.code (13, none) "check_row",
  Fc.keep 13]
def fcs5 : List Fc := [Fc.glo "outer_of" 14,
  Fc.code (14, none) "outer_of",
  Fc.keep 14,
  Fc.glo "outer" 15,
  Fc.code (15, none) "outer",
  Fc.keep 15,
  Fc.glo "pieces_in" 17,
  Fc.code (17, none) "pieces_in",
  Fc.keep 17,
  Fc.glo "shared" 18,
  Fc.code (18, none) "shared",
  Fc.keep 18,
  Fc.glo "is_piece" 19,
  Fc.code (19, none) "is_piece",
  Fc.keep 19,
  Fc.glo "unshared" 20,
  Fc.code (20, none) "unshared",
  Fc.keep 20,
  Fc.glo "plain_room" 23,
  Fc.code (23, none) "plain_room"]
def fcs6 : List Fc := [Fc.keep 23,
  Fc.glo "_law_cell_at" 24,
  Fc.code (24, none) "_law_cell_at",
  Fc.keep 24,
  Fc.glo "_law_draw" 25,
  Fc.code (25, none) "_law_draw",
  Fc.keep 25,
  Fc.glo "_law_number" 26,
  Fc.code (26, none) "_law_number",
  Fc.keep 26,
  Fc.glo "_law_deep" 27,
  Fc.code (27, none) "_law_deep",
  Fc.keep 27,
  Fc.glo "_law_spoilt" 28,
  Fc.code (28, none) "_law_spoilt",
  Fc.keep 28,
  Fc.glo "_law_put" 29,
  Fc.code (29, none) "_law_put",
  Fc.keep 29,
  Fc.glo "_law_door_right" 30]
def fcs7 : List Fc := [Fc.code (30, none) "_law_door_right",
  Fc.keep 30,
  Fc.glo "_law_two" 31,
  Fc.code (31, none) "_law_two",
  Fc.keep 31,
  Fc.glo "_law_doors_right" 32,
  Fc.code (32, none) "_law_doors_right",
  Fc.keep 32,
  Fc.glo "_law_new_right" 33,
  Fc.code (33, none) "_law_new_right",
  Fc.keep 33,
  Fc.glo "law" 34,
  Fc.code (34, none) "law",
  Fc.keep 34]
def fcsg0 : List Fc := fcs0 ++ (fcs1 ++ (fcs2 ++ (fcs3 ++ (fcs4))))
def fcsg1 : List Fc := fcs5 ++ (fcs6 ++ (fcs7))
def fcs : List Fc := fcsg0 ++ (fcsg1)
def fns0 : List FnN := [dfn 7 "is_between" "is_between" s_is_between,
  dfn 8 "is_maker" "is_maker" s_is_maker,
  dfn 9 "is_name" "is_name" s_is_name,
  dfn 10 "is_term" "is_term" s_is_term,
  dfn 11 "check_term" "check_term" s_check_term,
  dfn 12 "is_row" "is_row" s_is_row,
  dfn 13 "check_row" "check_row" s_check_row,
  dfn 14 "outer_of" "outer_of" s_outer_of,
  dfn 15 "outer" "outer" s_outer,
  dfn 17 "pieces_in" "pieces_in" s_pieces_in,
  dfn 18 "shared" "shared" s_shared,
  dfn 19 "is_piece" "is_piece" s_is_piece,
  dfn 20 "unshared" "unshared" s_unshared,
  dfn 23 "plain_room" "plain_room" s_plain_room,
  dfn 24 "_law_cell_at" "_law_cell_at" s_law_cell_at,
  dfn 25 "_law_draw" "_law_draw" s_law_draw,
  dfn 26 "_law_number" "_law_number" s_law_number,
  dfn 27 "_law_deep" "_law_deep" s_law_deep,
  dfn 28 "_law_spoilt" "_law_spoilt" s_law_spoilt,
  dfn 29 "_law_put" "_law_put" s_law_put]
def fns1 : List FnN := [dfn 30 "_law_door_right" "_law_door_right" s_law_door_right,
  dfn 31 "_law_two" "_law_two" s_law_two,
  dfn 32 "_law_doors_right" "_law_doors_right" s_law_doors_right,
  dfn 33 "_law_new_right" "_law_new_right" s_law_new_right,
  dfn 34 "law" "law" s_law]
def fnsg0 : List FnN := fns0 ++ (fns1)
def fns : List FnN := fnsg0
def tbs : List TbN := []
def loose0 : List Str := ["OutError",
  "BadTerm",
  "BadNumber",
  "BadPieces",
  "TooMany",
  "MAKERS",
  "LARGEST",
  "is_between",
  "is_maker",
  "is_name",
  "is_term",
  "check_term",
  "is_row",
  "check_row",
  "outer_of",
  "outer",
  "MOST",
  "pieces_in",
  "shared",
  "is_piece"]
def loose1 : List Str := ["unshared",
  "MOST_NAMES",
  "GREATEST",
  "plain_room",
  "_law_cell_at",
  "_law_draw",
  "_law_number",
  "_law_deep",
  "_law_spoilt",
  "_law_put",
  "_law_door_right",
  "_law_two",
  "_law_doors_right",
  "_law_new_right"]
def loose : List Str := loose0 ++ (loose1)
abbrev Row : PySem.W.OpenRow := PySem.W.OpenLaw.row PySem.Challenge.rw_namesout_k21_whole_anew
abbrev Vw : Program := PySem.W.view Row.prog [39]
def ob (s : PySem.W.SharedT) : SawT := sawG GN fcs fns tbs (HandSHeadRun.getT s)
set_option maxHeartbeats 0 in
theorem runB (w : World) : HandSHeadRun.RunEq Row Vw (hkN GN [] [] tbs) (fun s => sawG GN [] [] tbs (HandSHeadRun.getT s)) 20000 loose w :=
  PySem.W.byRow2 "special-get-raises" (P := fun w => HandSHeadRun.RunEq Row Vw (hkN GN [] [] tbs) (fun s => sawG GN [] [] tbs (HandSHeadRun.getT s)) 20000 loose w) (fun w os => by kernel_rfl) (fun w os => by kernel_rfl) w
set_option maxHeartbeats 0 in
theorem runF0 (w : World) : RunF Row 20000 GN fcsg0 w :=
  PySem.W.byRow2 "special-get-raises" (P := fun w => RunF Row 20000 GN fcsg0 w) (fun w os => by kernel_rfl) (fun w os => by kernel_rfl) w
set_option maxHeartbeats 0 in
theorem runF1 (w : World) : RunF Row 20000 GN fcsg1 w :=
  PySem.W.byRow2 "special-get-raises" (P := fun w => RunF Row 20000 GN fcsg1 w) (fun w os => by kernel_rfl) (fun w os => by kernel_rfl) w
set_option maxHeartbeats 0 in
theorem runD0 (w : World) : RunD Row 20000 GN fnsg0 w :=
  PySem.W.byRow2 "special-get-raises" (P := fun w => RunD Row 20000 GN fnsg0 w) (fun w os => by kernel_rfl) (fun w os => by kernel_rfl) w
set_option maxHeartbeats 0 in
theorem run (w : World) : HandSHeadRun.RunEq Row Vw (hkN GN fcs fns tbs) ob 20000 loose w := run_join (runB w) ((runF0 w).app (runF1 w)) (runD0 w)
set_option maxHeartbeats 0 in
theorem runT (w : World) : RunT Row 20000 GN tms w :=
  PySem.W.byRow2 "special-get-raises" (P := fun w => RunT Row 20000 GN tms w) (fun w os => by kernel_rfl) (fun w os => by kernel_rfl) w
set_option maxHeartbeats 0 in
theorem run2 (w : World) : HandSHeadRun.RunEq Row Vw (hkT GN fcs fns tbs tms) (fun s => sawG2 GN fcs fns tbs tms (HandSHeadRun.getT s)) 20000 loose w := run_joinT (run w) (runT w)
set_option maxHeartbeats 0 in
theorem facts {P : Program} {w : World} {K : PySem.W.Frag} {mg : Str → Option Value} {h : Heap} (X : K.In h) (G : h.Ns mainGlobals mg) {fa : Addr} (hfa : mg "law" = some (.ref fa)) (c : Saw GN fcs fns tbs w K) (t : TabsAt GN tms K h) :
    (∀ p ∈ lkc T K mg, h.get? p.2 = some { cls := .none, data := .fields #[] } ∧ K.lookup p.2 = none ∧ PySem.W.CodeHd h p.1 p.2) ∧ ∃ fd : FuncData, (∀ (s : Shared) (u : Value), BindsTo s fd ⟨[u], []⟩ [("_law_script", u)]) ∧ ∀ base : Heap, K.In base → base.Ns mainGlobals mg → (∀ p ∈ lkc T K mg, LamX.TabB base mg p.1 p.2) → RunG P w K mg base (LK + 1) fa fd ["_law_script"] (spLaw T K mg) := by
  obtain ⟨_, g0⟩ := int_of' (c.at 0 (f := Fc.int "GREATEST" 1000000000000000000000000000000))
  obtain ⟨_, g1⟩ := int_of' (c.at 1 (f := Fc.int "LARGEST" 200))
  obtain ⟨_, g2⟩ := str_of' (c.at 2 (f := Fc.str "MAKERS" "BCIKS"))
  obtain ⟨_, g3⟩ := int_of' (c.at 3 (f := Fc.int "MOST" 300))
  obtain ⟨_, g4⟩ := int_of' (c.at 4 (f := Fc.int "MOST_NAMES" 200))
  have tl := tabs_lk (T := T) (ms := tms) X t (fun x hx => by
    replace hx : x ∈ (["law"] : List Str) := hx
    simp only [List.mem_cons, List.not_mem_nil, or_false] at hx
    rcases hx with rfl
    · exact ⟨34, by decide, glo_of X G (c.at 151 (f := Fc.glo "law" 34))⟩)
  exact ⟨tl.2, the_law X G hfa
    g0
    g1
    g2
    g3
    g4
    (free_of (c.at 5 (f := Fc.free "str")))
    (free_of (c.at 6 (f := Fc.free "zip")))
    (free_of (c.at 7 (f := Fc.free "all")))
    (free_of (c.at 8 (f := Fc.free "range")))
    (free_of (c.at 9 (f := Fc.free "isinstance")))
    (free_of (c.at 10 (f := Fc.free "list")))
    (free_of (c.at 11 (f := Fc.free "tuple")))
    (free_of (c.at 12 (f := Fc.free "int")))
    (free_of (c.at 13 (f := Fc.free "bool")))
    (free_of (c.at 14 (f := Fc.free "len")))
    (free_of (c.at 15 (f := Fc.free "sorted")))
    (free_of (c.at 16 (f := Fc.free "set")))
    (free_of (c.at 17 (f := Fc.free "enumerate")))
    (free_of (c.at 18 (f := Fc.free "sum")))
    (c.at 19 (f := Fc.glo "OutError" 0))
    (c.at 20 (f := Fc.exc 0))
    (c.at 21 (f := Fc.glo "BadTerm" 1))
    (c.at 22 (f := Fc.exc 1))
    (c.at 23 (f := Fc.glo "BadNumber" 2))
    (c.at 24 (f := Fc.exc 2))
    (c.at 25 (f := Fc.glo "BadPieces" 3))
    (c.at 26 (f := Fc.exc 3))
    (c.at 27 (f := Fc.glo "TooMany" 4))
    (c.at 28 (f := Fc.exc 4))
    (c.at 29 (f := Fc.sub 0 0 true))
    (c.at 30 (f := Fc.kit 0 0 true))
    (c.at 31 (f := Fc.sub 0 1 false))
    (c.at 32 (f := Fc.kit 0 1 false))
    (c.at 33 (f := Fc.sub 0 2 false))
    (c.at 34 (f := Fc.kit 0 2 false))
    (c.at 35 (f := Fc.sub 0 3 false))
    (c.at 36 (f := Fc.kit 0 3 false))
    (c.at 37 (f := Fc.sub 0 4 false))
    (c.at 38 (f := Fc.kit 0 4 false))
    (c.at 39 (f := Fc.sub 1 0 true))
    (c.at 40 (f := Fc.kit 1 0 true))
    (c.at 41 (f := Fc.sub 1 1 true))
    (c.at 42 (f := Fc.kit 1 1 true))
    (c.at 43 (f := Fc.sub 1 2 false))
    (c.at 44 (f := Fc.kit 1 2 false))
    (c.at 45 (f := Fc.sub 1 3 false))
    (c.at 46 (f := Fc.kit 1 3 false))
    (c.at 47 (f := Fc.sub 1 4 false))
    (c.at 48 (f := Fc.kit 1 4 false))
    (c.at 49 (f := Fc.sub 2 0 true))
    (c.at 50 (f := Fc.kit 2 0 true))
    (c.at 51 (f := Fc.sub 2 1 false))
    (c.at 52 (f := Fc.kit 2 1 false))
    (c.at 53 (f := Fc.sub 2 2 true))
    (c.at 54 (f := Fc.kit 2 2 true))
    (c.at 55 (f := Fc.sub 2 3 false))
    (c.at 56 (f := Fc.kit 2 3 false))
    (c.at 57 (f := Fc.sub 2 4 false))
    (c.at 58 (f := Fc.kit 2 4 false))
    (c.at 59 (f := Fc.sub 3 0 true))
    (c.at 60 (f := Fc.kit 3 0 true))
    (c.at 61 (f := Fc.sub 3 1 false))
    (c.at 62 (f := Fc.kit 3 1 false))
    (c.at 63 (f := Fc.sub 3 2 false))
    (c.at 64 (f := Fc.kit 3 2 false))
    (c.at 65 (f := Fc.sub 3 3 true))
    (c.at 66 (f := Fc.kit 3 3 true))
    (c.at 67 (f := Fc.sub 3 4 false))
    (c.at 68 (f := Fc.kit 3 4 false))
    (c.at 69 (f := Fc.sub 4 0 true))
    (c.at 70 (f := Fc.kit 4 0 true))
    (c.at 71 (f := Fc.sub 4 1 false))
    (c.at 72 (f := Fc.kit 4 1 false))
    (c.at 73 (f := Fc.sub 4 2 false))
    (c.at 74 (f := Fc.kit 4 2 false))
    (c.at 75 (f := Fc.sub 4 3 false))
    (c.at 76 (f := Fc.kit 4 3 false))
    (c.at 77 (f := Fc.sub 4 4 true))
    (c.at 78 (f := Fc.kit 4 4 true))
    (defAt_of b_is_between (c.fn_ 0 (d := dfn 7 "is_between" "is_between" s_is_between)) (c.at 79 (f := Fc.glo "is_between" 7)) (c.at 80 (f := Fc.code (7, none) "is_between")) (c.at 81 (f := Fc.keep 7)))
    (defAt_of b_is_maker (c.fn_ 1 (d := dfn 8 "is_maker" "is_maker" s_is_maker)) (c.at 82 (f := Fc.glo "is_maker" 8)) (c.at 83 (f := Fc.code (8, none) "is_maker")) (c.at 84 (f := Fc.keep 8)))
    (defAt_of b_is_name (c.fn_ 2 (d := dfn 9 "is_name" "is_name" s_is_name)) (c.at 85 (f := Fc.glo "is_name" 9)) (c.at 86 (f := Fc.code (9, none) "is_name")) (c.at 87 (f := Fc.keep 9)))
    (defAt_of b_is_term (c.fn_ 3 (d := dfn 10 "is_term" "is_term" s_is_term)) (c.at 88 (f := Fc.glo "is_term" 10)) (c.at 89 (f := Fc.code (10, none) "is_term")) (c.at 90 (f := Fc.keep 10)))
    (defAt_of b_check_term (c.fn_ 4 (d := dfn 11 "check_term" "check_term" s_check_term)) (c.at 91 (f := Fc.glo "check_term" 11)) (c.at 92 (f := Fc.code (11, none) "check_term")) (c.at 93 (f := Fc.keep 11)))
    (defAt_of b_is_row (c.fn_ 5 (d := dfn 12 "is_row" "is_row" s_is_row)) (c.at 94 (f := Fc.glo "is_row" 12)) (c.at 95 (f := Fc.code (12, none) "is_row")) (c.at 96 (f := Fc.keep 12)))
    (defAt_of b_check_row (c.fn_ 6 (d := dfn 13 "check_row" "check_row" s_check_row)) (c.at 97 (f := Fc.glo "check_row" 13)) (c.at 98 (f := Fc.code (13, none) "check_row")) (c.at 99 (f := Fc.keep 13)))
    (defAt_of b_outer_of (c.fn_ 7 (d := dfn 14 "outer_of" "outer_of" s_outer_of)) (c.at 100 (f := Fc.glo "outer_of" 14)) (c.at 101 (f := Fc.code (14, none) "outer_of")) (c.at 102 (f := Fc.keep 14)))
    (defAt_of b_outer (c.fn_ 8 (d := dfn 15 "outer" "outer" s_outer)) (c.at 103 (f := Fc.glo "outer" 15)) (c.at 104 (f := Fc.code (15, none) "outer")) (c.at 105 (f := Fc.keep 15)))
    (defAt_of b_pieces_in (c.fn_ 9 (d := dfn 17 "pieces_in" "pieces_in" s_pieces_in)) (c.at 106 (f := Fc.glo "pieces_in" 17)) (c.at 107 (f := Fc.code (17, none) "pieces_in")) (c.at 108 (f := Fc.keep 17)))
    (defAt_of b_shared (c.fn_ 10 (d := dfn 18 "shared" "shared" s_shared)) (c.at 109 (f := Fc.glo "shared" 18)) (c.at 110 (f := Fc.code (18, none) "shared")) (c.at 111 (f := Fc.keep 18)))
    (defAt_of b_is_piece (c.fn_ 11 (d := dfn 19 "is_piece" "is_piece" s_is_piece)) (c.at 112 (f := Fc.glo "is_piece" 19)) (c.at 113 (f := Fc.code (19, none) "is_piece")) (c.at 114 (f := Fc.keep 19)))
    (defAt_of b_unshared (c.fn_ 12 (d := dfn 20 "unshared" "unshared" s_unshared)) (c.at 115 (f := Fc.glo "unshared" 20)) (c.at 116 (f := Fc.code (20, none) "unshared")) (c.at 117 (f := Fc.keep 20)))
    (defAt_of b_plain_room (c.fn_ 13 (d := dfn 23 "plain_room" "plain_room" s_plain_room)) (c.at 118 (f := Fc.glo "plain_room" 23)) (c.at 119 (f := Fc.code (23, none) "plain_room")) (c.at 120 (f := Fc.keep 23)))
    (defAt_of b_law_cell_at (c.fn_ 14 (d := dfn 24 "_law_cell_at" "_law_cell_at" s_law_cell_at)) (c.at 121 (f := Fc.glo "_law_cell_at" 24)) (c.at 122 (f := Fc.code (24, none) "_law_cell_at")) (c.at 123 (f := Fc.keep 24)))
    (defAt_of b_law_draw (c.fn_ 15 (d := dfn 25 "_law_draw" "_law_draw" s_law_draw)) (c.at 124 (f := Fc.glo "_law_draw" 25)) (c.at 125 (f := Fc.code (25, none) "_law_draw")) (c.at 126 (f := Fc.keep 25)))
    (defAt_of b_law_number (c.fn_ 16 (d := dfn 26 "_law_number" "_law_number" s_law_number)) (c.at 127 (f := Fc.glo "_law_number" 26)) (c.at 128 (f := Fc.code (26, none) "_law_number")) (c.at 129 (f := Fc.keep 26)))
    (defAt_of b_law_deep (c.fn_ 17 (d := dfn 27 "_law_deep" "_law_deep" s_law_deep)) (c.at 130 (f := Fc.glo "_law_deep" 27)) (c.at 131 (f := Fc.code (27, none) "_law_deep")) (c.at 132 (f := Fc.keep 27)))
    (defAt_of b_law_spoilt (c.fn_ 18 (d := dfn 28 "_law_spoilt" "_law_spoilt" s_law_spoilt)) (c.at 133 (f := Fc.glo "_law_spoilt" 28)) (c.at 134 (f := Fc.code (28, none) "_law_spoilt")) (c.at 135 (f := Fc.keep 28)))
    (defAt_of b_law_put (c.fn_ 19 (d := dfn 29 "_law_put" "_law_put" s_law_put)) (c.at 136 (f := Fc.glo "_law_put" 29)) (c.at 137 (f := Fc.code (29, none) "_law_put")) (c.at 138 (f := Fc.keep 29)))
    (defAt_of b_law_door_right (c.fn_ 20 (d := dfn 30 "_law_door_right" "_law_door_right" s_law_door_right)) (c.at 139 (f := Fc.glo "_law_door_right" 30)) (c.at 140 (f := Fc.code (30, none) "_law_door_right")) (c.at 141 (f := Fc.keep 30)))
    (defAt_of b_law_two (c.fn_ 21 (d := dfn 31 "_law_two" "_law_two" s_law_two)) (c.at 142 (f := Fc.glo "_law_two" 31)) (c.at 143 (f := Fc.code (31, none) "_law_two")) (c.at 144 (f := Fc.keep 31)))
    (defAt_of b_law_doors_right (c.fn_ 22 (d := dfn 32 "_law_doors_right" "_law_doors_right" s_law_doors_right)) (c.at 145 (f := Fc.glo "_law_doors_right" 32)) (c.at 146 (f := Fc.code (32, none) "_law_doors_right")) (c.at 147 (f := Fc.keep 32)))
    (defAt_of b_law_new_right (c.fn_ 23 (d := dfn 33 "_law_new_right" "_law_new_right" s_law_new_right)) (c.at 148 (f := Fc.glo "_law_new_right" 33)) (c.at 149 (f := Fc.code (33, none) "_law_new_right")) (c.at 150 (f := Fc.keep 33)))
    (defAt_of b_law (c.fn_ 24 (d := dfn 34 "law" "law" s_law)) (c.at 151 (f := Fc.glo "law" 34)) (c.at 152 (f := Fc.code (34, none) "law")) (c.at 153 (f := Fc.keep 34)))
    tl.1 main⟩
end R
open PySem PySem.W PyProof.Rows
set_option maxHeartbeats 0 in
theorem PySem.Challenge.cw_namesout_k21_whole_anew_holds : PySem.Challenge.rw_namesout_k21_whole_anew.Holds := by
  w_on; o_law
  refine HandSHeadRun.head_any (r := R.Row) (q := R.Vw) (H := Nm.hkT R.GN R.fcs R.fns R.tbs R.tms) (ob := fun s => Nm.sawG2 R.GN R.fcs R.fns R.tbs R.tms (HandSHeadRun.getT s)) (M := 20000) (loose := R.loose) (d := HandSHeadRun.topDef R.Row.prog 39) (kwd := []) (fun s => Nm.sawG2_eq s) (by kernel_rfl) (fun s => by kernel_rfl) R.run2 (by kernel_rfl) (by kernel_rfl) (by kernel_rfl) (by rfl) (by first | assumption | decide +kernel) (by decide +kernel) ⟨rfl, rfl, rfl, rfl, rfl, by decide +kernel⟩ ?hw ?hc
  case hw => w_witness2
  case hc =>
    refine Nm.end_runtab R.T (l := PySem.Challenge.rw_namesout_k21_whole_anew) (n := 63) (k := R.LK + 1) (x := "_law_script") rfl (by decide) (by kernel_rfl) ⟨rfl, by decide, by decide⟩ fun w mg fa h Y G hmg => ?_
    obtain ⟨K, KX, c, t⟩ := Y
    have nm : (HandSHeadRun.topDef R.Row.prog 39).name = ("law" : PySem.Str) := by kernel_rfl
    rw [nm] at hmg
    obtain ⟨hT, fd, hb, hF⟩ := R.facts (P := (PySem.Challenge.rw_namesout_k21_whole_anew).prog) (w := w) KX G hmg c t
    exact ⟨K, fd, KX, hT, hb, hF⟩
