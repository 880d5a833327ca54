import PyProof.Rows.All
import Wide.All
import OpenK.AllK
import Wide.FinOn
import KE.KStateDown
import HandS.ForExc
import HandS.Defaults
import HandS.Head0
import HandS.Head1
import HandS.Head2
import HandS.HeadEnd
import HandS.HeadHook1
import HandS.HeadHook2
import HandS.HeadHook3
import HandS.HeadHook4
import HandS.HeadWalk
import HandS.IsInst
import HandS.Deep
import HandS.Strs
import HandS.ExcOwn
import HandS.GenList
import HandS.WordsExc
import HandS.TryOnly
import HandS.MakeKwOnly
import HandS.Comp
import KE.SortData
import HandS.Dict
import HandS.Lambda
import HandS.Nested
import HandS.Conv
import PyProof.ZipIter
import PyProof.RangeIter
import HandS.Walk
import PySem.Challenge.RW_lentdoors_k05_whole_kinds_in_order
set_option Elab.async false
set_option linter.all false
set_option maxRecDepth 100000
set_option maxHeartbeats 0
namespace Kd
open PySem PySem.Spec PyProof.Rows L2
/-! ### the text -/
def top (i : Nat) : Stmt := PySem.Challenge.pw_lentdoors_k05_whole_kinds_in_order.main.body.getD i (.Pass ⟨0, 0, 0, 0⟩)
def mkD (x : Str) (i : Nat) (kw : List (Str × He.Dv) := []) : He.DefD := ⟨(x, none), x, x, defArgs (top i), defBody (top i), defScope (top i), [], kw⟩
def fn : List He.DefD := [mkD "is_kind" 7, mkD "require_kind" 8, mkD "is_as_loose" 9, mkD "kinds" 10 [("least", .non), ("most", .non)], mkD "_law_dice" 12, mkD "_law_roll" 13, mkD "_law_pick" 14, mkD "_law_odd" 15, mkD "_law_words" 16,
  mkD "_law_kind" 17, mkD "_law_no_kind" 18, mkD "_law_is_refused" 19, mkD "_law_ups" 20, mkD "_law_are_refused" 21, mkD "_law_right" 22, mkD "_law_are_ordered" 23, mkD "law" 24]
def glos : List Str := ["is_kind", "require_kind", "is_as_loose", "kinds", "_law_dice", "_law_roll", "_law_pick", "_law_odd", "_law_words", "_law_kind", "_law_no_kind", "_law_is_refused", "_law_ups", "_law_are_refused", "_law_right", "_law_are_ordered", "law", "LENDINGS", "LETTINGS", "TURNINGS", "InvalidKind"]
def frees : List Str := ["isinstance", "tuple", "len", "sorted", "int", "abs", "max", "min", "list", "zip", "range", "enumerate"]
def fa : List He.Fa := glos.map .glo ++ frees.map .free ++ [.exc "InvalidKind", .exm "InvalidKind" "InvalidKind" true]
def tupN (K : PySem.W.Frag) (x : Str) : Bool := match K.lookup (He.ga K x) with
  | some ⟨.type c, none, _, _⟩ => decide (c = "tuple")
  | _ => false
def ex (K : PySem.W.Frag) : Bool := He.tupB K "LENDINGS" [.str "source", .str "address", .str "door"] && (He.tupB K "LETTINGS" [.str "any", .str "address", .str "door"] && (He.tupB K "TURNINGS" [.str "never", .str "lent", .str "inner"] &&
  (decide (PySem.W.subIn K (.ref (He.ga K "InvalidKind")) (.type "StopIteration") = some false) && (tupN K "LENDINGS" && (tupN K "LETTINGS" && tupN K "TURNINGS")))))
def tf : List He.Defn := [("_law_are_refused", none)]
abbrev R : PySem.W.OpenRow := PySem.W.OpenLaw.row PySem.Challenge.rw_lentdoors_k05_whole_kinds_in_order
abbrev hk : PySem.W.Hook := He.hookX 4 fa fn [] tf ex
def ob (s : PySem.W.SharedT) : He.AlX := He.obsX 4 fa fn [] tf ex (HandSHeadRun.getT s)
theorem ob_eq (s : PySem.W.SharedT) : ob s = hk.obs s.abs := He.obsX_eq (HandSHeadRun.getT_eq s)
theorem run (w : World) : HandSHeadRun.RunEq R (PySem.W.view R.prog [24]) hk ob 1200 ["DoorError", "InvalidKind", "LENDINGS", "LETTINGS", "TURNINGS", "is_kind", "require_kind", "is_as_loose", "kinds", "_law_dice", "_law_roll", "_law_pick", "_law_odd", "_law_words", "_law_kind", "_law_no_kind", "_law_is_refused", "_law_ups", "_law_are_refused", "_law_right", "_law_are_ordered"] w := by
  intro os
  kernel_rfl
end Kd
/-! K1: kinds as data; what is no kind; the module's facts; calls by name -/
namespace Kd
open PySem PySem.Spec PyProof.Rows L2
abbrev F3 := _root_.Fin 3
abbrev Kn := F3 × F3 × F3
def wL (i : F3) : Str := match i.val with | 0 => "source" | 1 => "address" | _ => "door"
def wT (i : F3) : Str := match i.val with | 0 => "any" | 1 => "address" | _ => "door"
def wU (i : F3) : Str := match i.val with | 0 => "never" | 1 => "lent" | _ => "inner"
def words (k : Kn) : List V := [.str (wL k.1), .str (wT k.2.1), .str (wU k.2.2)]
def kd (k : Kn) : PyData := .tuple [.str (wL k.1), .str (wT k.2.1), .str (wU k.2.2)]
def loose (k o : Kn) : Bool := decide (k.1 ≤ o.1) && (decide (k.2.1 ≤ o.2.1) && (decide (k.2.2 = o.2.2) || decide (o.2.2 = 0)))
def wsL : List Str := ["source", "address", "door"]
def wsT : List Str := ["any", "address", "door"]
def wsU : List Str := ["never", "lent", "inner"]
theorem wL_eq : ∀ i j : F3, (wL i == wL j) = decide (i = j) := by decide +kernel
theorem wT_eq : ∀ i j : F3, (wT i == wT j) = decide (i = j) := by decide +kernel
theorem wU_eq : ∀ i j : F3, (wU i == wU j) = decide (i = j) := by decide +kernel
theorem kd_eqv (a b : Kn) : PyData.eqv (kd a) (kd b) = decide (a = b) := by
  obtain ⟨a1, a2, a3⟩ := a
  obtain ⟨b1, b2, b3⟩ := b
  simp only [kd, PyData.eqv, PyData.eqvAll, wL_eq, wT_eq, wU_eq, Bool.and_true, Prod.mk.injEq, Bool.decide_and]
theorem okL : ∀ i : F3, PyData.strOk (wL i) = true := by decide +kernel
theorem okT : ∀ i : F3, PyData.strOk (wT i) = true := by decide +kernel
theorem okU : ∀ i : F3, PyData.strOk (wU i) = true := by decide +kernel
theorem kd_shaped (a : Kn) : SeqAt.shaped (kd a) = true := by
  simp [SeqAt.shaped, kd, okL, okT, okU, PyData.canLay0, PyData.canLayAll0, PyData.depth, PyData.depthAll]
theorem kds_canLay : ∀ ks : List Kn, PyData.canLayAll0 (ks.map kd) = true
  | [] => by simp [PyData.canLayAll0]
  | k :: ks => by
    have h := SeqAt.canLay_of_shaped (kd_shaped k)
    simp [PyData.canLayAll0, h, kds_canLay ks]
theorem kds_depth : ∀ ks : List Kn, PyData.depthAll (ks.map kd) ≤ 1
  | [] => by simp [PyData.depthAll]
  | k :: ks => by
    have h := kds_depth ks
    simp only [List.map_cons, PyData.depthAll]
    have h2 : (kd k).depth = 1 := by simp [kd, PyData.depth, PyData.depthAll]
    omega
theorem kds_shaped (ks : List Kn) : SeqAt.shaped (.list (ks.map kd)) = true := by
  have h := kds_depth ks
  have h2 : PyData.depth (.list (ks.map kd)) ≤ 64 := by
    simp only [PyData.depth]
    omega
  simp only [SeqAt.shaped, PyData.canLay0, kds_canLay, Bool.true_and, decide_eq_true_eq]
  exact h2
theorem kds_eqv : ∀ (ks js : List Kn), PyData.eqv (.list (ks.map kd)) (.list (js.map kd)) = decide (ks = js)
  | [], [] => by simp [PyData.eqv, PyData.eqvAll]
  | [], _ :: _ => by simp [PyData.eqv, PyData.eqvAll]
  | _ :: _, [] => by simp [PyData.eqv, PyData.eqvAll]
  | k :: ks, j :: js => by
    have ih := kds_eqv ks js
    simp only [PyData.eqv] at ih ⊢
    simp only [List.map_cons, PyData.eqvAll, ih, kd_eqv, List.cons.injEq, Bool.decide_and]
theorem kds_any (ks : List Kn) (k : Kn) : (ks.map kd).any (fun z => PyData.eqv z (kd k)) = decide (k ∈ ks) := by
  rw [List.any_map]
  induction ks with
  | nil => rfl
  | cons a r ih =>
    rw [List.any_cons, ih]
    show (PyData.eqv (kd a) (kd k) || _) = _
    rw [kd_eqv]
    by_cases e : a = k
    · subst e
      simp
    · have e' : ¬ k = a := fun z => e z.symm
      simp [e, e']

/-! ### kinds in the heap -/
section
variable {K : PySem.W.Frag} {H H' : Hp}
def KindAt (K : PySem.W.Frag) (H : Hp) (v : V) (k : Kn) : Prop := ∃ p, v = .ref p ∧ SqT K H p (words k)
/-- what never changes stands: tuples, locked things -/
structure Tk (H H' : Hp) : Prop where
  tup : ∀ b xs, H b = some (.tup xs) → H' b = some (.tup xs)
  frz : ∀ b o u, H b = some (.frz o u) → H' b = some (.frz o u)
theorem Tk.refl (H : Hp) : Tk H H := ⟨fun _ _ h => h, fun _ _ _ h => h⟩
theorem Tk.trans {H1 : Hp} (a : Tk H H1) (b : Tk H1 H') : Tk H H' := ⟨fun c xs h => b.tup c xs (a.tup c xs h), fun c o u h => b.frz c o u (a.frz c o u h)⟩
theorem Tk.same (e : Same H H') : Tk H H' := ⟨fun b _ h => e b _ h, fun b _ _ h => e b _ h⟩
theorem Tk.sqt {p : Addr} {xs : List V} (t : Tk H H') (h : SqT K H p xs) : SqT K H' p xs := by
  rcases h with (h | ⟨o, h⟩) | h
  · exact .inl (.inl (t.tup p xs h))
  · exact .inl (.inr ⟨o, t.frz p o _ h⟩)
  · exact .inr h
theorem KindAt.tk {v : V} {k : Kn} (h : KindAt K H v k) (t : Tk H H') : KindAt K H' v k := by
  obtain ⟨p, e, q⟩ := h
  exact ⟨p, e, t.sqt q⟩
theorem KindAt.same {v : V} {k : Kn} (h : KindAt K H v k) (t : Same H H') : KindAt K H' v k := h.tk (.same t)
theorem KindAt.dp {v : V} {k : Kn} (h : KindAt K H v k) : Dp K H v (kd k) := by
  obtain ⟨p, rfl, q⟩ := h
  exact .tup q (.cons (.str _) (.cons (.str _) (.cons (.str _) .nil)))
/-- a list of kinds, item by item -/
inductive Ks (K : PySem.W.Frag) (H : Hp) : List V → List Kn → Prop
  | nil : Ks K H [] []
  | cons {v : V} {vs : List V} {k : Kn} {ks : List Kn} : KindAt K H v k → Ks K H vs ks → Ks K H (v :: vs) (k :: ks)
theorem Ks.tk {vs : List V} {ks : List Kn} (h : Ks K H vs ks) (t : Tk H H') : Ks K H' vs ks := by
  induction h with
  | nil => exact .nil
  | cons a _ ih => exact .cons (a.tk t) ih
theorem Ks.same {vs : List V} {ks : List Kn} (h : Ks K H vs ks) (t : Same H H') : Ks K H' vs ks := h.tk (.same t)
theorem Ks.len {vs : List V} {ks : List Kn} (h : Ks K H vs ks) : vs.length = ks.length := by
  induction h with
  | nil => rfl
  | cons _ _ ih => simp [ih]
theorem Ks.dp {vs : List V} {ks : List Kn} (h : Ks K H vs ks) : DpAll K H vs (ks.map kd) := by
  induction h with
  | nil => exact .nil
  | cons a _ ih => exact .cons a.dp ih
theorem Ks.at {vs : List V} {ks : List Kn} (h : Ks K H vs ks) : ∀ {i : Nat} {v : V}, vs[i]? = some v → ∃ k, ks[i]? = some k ∧ KindAt K H v k := by
  induction h with
  | nil => intro i v e; simp at e
  | cons a _ ih =>
    intro i v e
    cases i with
    | zero =>
      simp at e
      subst e
      exact ⟨_, rfl, a⟩
    | succ i => exact ih (by simpa using e)
theorem Ks.append {vs ws : List V} {ks js : List Kn} (h : Ks K H vs ks) (g : Ks K H ws js) : Ks K H (vs ++ ws) (ks ++ js) := by
  induction h with
  | nil => exact g
  | cons a _ ih => exact .cons a ih
theorem Ks.take {vs : List V} {ks : List Kn} (h : Ks K H vs ks) : ∀ n : Nat, Ks K H (vs.take n) (ks.take n) := by
  induction h with
  | nil => intro n; simp; exact .nil
  | cons a _ ih =>
    intro n
    cases n with
    | zero => exact .nil
    | succ n => exact .cons a (ih n)
theorem SqL.kinds {a : Addr} {vs : List V} {ks : List Kn} (q : SqL K H a vs) (h : Ks K H vs ks) : Dp K H (.ref a) (.list (ks.map kd)) := .lst q h.dp

/-! ### what is no kind -/
inductive Cmp (H : Hp) : V → PyData → Prop
  | str (s : Str) : PyData.strOk s = true → Cmp H (.str s) (.str s)
  | non : Cmp H .non .none
  | bl (b : Bool) : Cmp H (.bl b) (.bool b)
  | lst {q : Addr} (s : Str) : PyData.strOk s = true → H q = some (.lst [.str s]) → Cmp H (.ref q) (.list [.str s])
theorem Cmp.dp {v : V} {d : PyData} (h : Cmp H v d) : Dp K H v d := by
  cases h with
  | str s _ => exact .str s
  | non => exact .non
  | bl b => exact .bl b
  | lst s _ e => exact .lst (SqL.of e) (.cons (.str s) .nil)
theorem Cmp.shaped {v : V} {d : PyData} (h : Cmp H v d) : SeqAt.shaped d = true := by
  cases h <;> simp [*, SeqAt.shaped, PyData.canLay0, PyData.canLayAll0, PyData.depth, PyData.depthAll]
def anyD (ws : List Str) (d : PyData) : Bool := (ws.map PyData.str).any fun z => PyData.eqv z d
inductive NotKind (H : Hp) : V → Prop
  | flat {v : V} : flatV v = true → NotKind H v
  | lst {p : Addr} {xs : List V} : H p = some (.lst xs) → NotKind H (.ref p)
  | dic {p : Addr} {kvs : List (Key × V)} : H p = some (.dK kvs) → NotKind H (.ref p)
  | len {p : Addr} {xs : List V} : H p = some (.tup xs) → xs.length ≠ 3 → NotKind H (.ref p)
  | bad {p : Addr} {x y z : V} {dx dy dz : PyData} : H p = some (.tup [x, y, z]) → Cmp H x dx → Cmp H y dy → Cmp H z dz → (anyD wsL dx && (anyD wsT dy && anyD wsU dz)) = false → NotKind H (.ref p)
/-- all but the tables of code objects stands -/
def Nt (H H' : Hp) : Prop := ∀ b o, H b = some o → (∀ ps, o ≠ .tbl ps) → H' b = some o
theorem Nt.refl (H : Hp) : Nt H H := fun _ _ h _ => h
theorem Nt.trans {H1 : Hp} (a : Nt H H1) (b : Nt H1 H') : Nt H H' := fun c o h n => b c o (a c o h n) n
theorem Nt.same (e : Same H H') : Nt H H' := fun b o h _ => e b o h
theorem Nt.tk (n : Nt H H') : Tk H H' := ⟨fun b xs h => n b _ h (fun _ z => nomatch z), fun b o u h => n b _ h (fun _ z => nomatch z)⟩
theorem Cmp.nt {v : V} {d : PyData} (h : Cmp H v d) (n : Nt H H') : Cmp H' v d := by
  cases h with
  | str s o => exact .str s o
  | non => exact .non
  | bl b => exact .bl b
  | lst s o e => exact .lst s o (n _ _ e (fun _ z => nomatch z))
theorem NotKind.nt {v : V} (h : NotKind H v) (n : Nt H H') : NotKind H' v := by
  cases h with
  | flat f => exact .flat f
  | lst e => exact .lst (n _ _ e (fun _ z => nomatch z))
  | dic e => exact .dic (n _ _ e (fun _ z => nomatch z))
  | len e l => exact .len (n _ _ e (fun _ z => nomatch z)) l
  | bad e a b c q => exact .bad (n _ _ e (fun _ z => nomatch z)) (a.nt n) (b.nt n) (c.nt n) q
theorem NotKind.same {v : V} (h : NotKind H v) (n : Same H H') : NotKind H' v := h.nt (.same n)
end

/-! ### the module -/
theorem tupN_ok {K : PySem.W.Frag} {x : Str} (h : tupN K x = true) : ∃ o, K.lookup (He.ga K x) = some o ∧ o.cls = .type "tuple" ∧ o.dict = none := by
  unfold tupN at h
  cases q : K.lookup (He.ga K x) with
  | none => rw [q] at h; cases h
  | some o =>
    obtain ⟨oc, od, dt, sl⟩ := o
    rw [q] at h
    cases oc with
    | type c =>
      cases od with
      | none => exact ⟨_, rfl, congrArg Value.type (of_decide_eq_true h), rfl⟩
      | some a => cases h
    | _ => cases od <;> cases h
/-- a tuple of the module's top -/
structure TopT (K : PySem.W.Frag) (x : Str) (ws : List Str) : Prop where
  sq : ∀ H, SqT K H (He.ga K x) (ws.map V.str)
  ob : ∃ o, K.lookup (He.ga K x) = some o ∧ o.cls = .type "tuple" ∧ o.dict = none
/-- what the top leaves -/
structure Tx (K : PySem.W.Frag) (mg : Str → Option Value) : Prop where
  glo : ∀ x ∈ glos, mg x = some (.ref (He.ga K x))
  fre : ∀ x ∈ frees, mg x = none
  L : TopT K "LENDINGS" wsL
  T : TopT K "LETTINGS" wsT
  U : TopT K "TURNINGS" wsU
  xI : PySem.W.excIn K (He.ga K "InvalidKind") He.veBase "ValueError.__new__" = true
  kI : PySem.W.keepIn K (.ref (He.ga K "InvalidKind")) = true
  bI : PySem.W.subIn K (.ref (He.ga K "InvalidKind")) (.type "BaseException") = some true
  tI : PySem.W.typeIn K (.ref (He.ga K "InvalidKind")) = some (.type "type")
  mI : PySem.W.exmOne K (.ref (He.ga K "InvalidKind")) (.ref (He.ga K "InvalidKind")) = some true
  sI : PySem.W.subIn K (.ref (He.ga K "InvalidKind")) (.type "StopIteration") = some false
abbrev CI (K : PySem.W.Frag) : Value := .ref (He.ga K "InvalidKind")
theorem noStop_inv {K : PySem.W.Frag} {mg : Str → Option Value} {E : XK} (T : Tx K mg) (h : ∀ cls d H, E cls d H → cls = CI K) : NoStop K E := fun cls d H q => by
  rw [h cls d H q]
  exact T.sI
/-- a def that keeps its promise, by its name -/
def Has (P : Program) (w : World) (K : PySem.W.Frag) (mg : Str → Option Value) (base : Heap) (CX : CXT) (k : Nat) (x : Str) (ps : List Str) (sp : Sp) : Prop :=
  ∃ fd, FnOk P w K mg base CX k (He.ga K x) fd ps sp ∧ PySem.W.keepIn K (.ref (He.ga K x)) = true ∧ Binds K fd ps [] ∧ mg x = some (.ref (He.ga K x))
section
variable {X : Cx} {CX : CXT} {j k : Nat} {x : Str} {ps : List Str} {sp : Sp} {E : XK} {p pos : Pos} {e : Expr} {es : List Expr} {t : TA}
def tHas (sp : Sp) (E : XK) (t : TA) : TE := fun σ H Q => t σ H fun vs H1 => sp vs H1 Q E
theorem pe_has (h : Has X.prog X.w X.K X.mg X.base CX j x ps sp) (hr : Room k X.A) (hx : Passes CX X E) (ha : PA X (e :: es) t) (hg : Gl X x := by rfl) (hjk : j ≤ k := by decide) (hdb : (x == ("__debug__" : Str)) = false := by decide)
    (he : starEach (e :: es) X.env = (false, eval e X.env) :: starEach es X.env := by rfl) (hpl : (backTo pos (starEach es X.env)).any (·.1) = false := by rfl) : PE X (.Call (.Name x p) (e :: es) [] pos) (tHas sp E t) := by
  obtain ⟨fd, F, kp, b, gm⟩ := h
  have q := pe_call (dvs := []) F (hr.mono hjk) hg gm kp b .nil hx ha (p := p) (pos := pos) hdb he hpl
  refine ⟨fun pins s σ H Q I h => q.run pins s σ H Q I ?_⟩
  have e0 : (fun (vs : List V) (H1 : Hp) => sp (vs ++ []) H1 Q E) = fun vs H1 => sp vs H1 Q E := by
    funext vs H1
    rw [List.append_nil]
  show t σ H (fun vs H1 => sp (vs ++ []) H1 Q E)
  rw [e0]
  exact h
theorem pe_has0 (h : Has X.prog X.w X.K X.mg X.base CX j x ps sp) (hr : Room k X.A) (hx : Passes CX X E) (hg : Gl X x := by rfl) (hjk : j ≤ k := by decide) (hdb : (x == ("__debug__" : Str)) = false := by decide) :
    PE X (.Call (.Name x p) [] [] pos) (fun _ H Q => sp [] H Q E) := by
  obtain ⟨fd, F, kp, b, gm⟩ := h
  have q := pe_call0 (dvs := []) F (hr.mono hjk) hg gm kp b .nil hx (p := p) (pos := pos) hdb
  exact ⟨fun pins s σ H Q I h => q.run pins s σ H Q I h⟩
/-- x in a tuple, data of any depth -/
def rInT (K : PySem.W.Frag) : R2 := fun x y H Q => ∃ a xs d ds, y = .ref a ∧ SqT K H a xs ∧ DpAll K H xs ds ∧ PyData.canLayAll0 ds = true ∧ Dp K H x d ∧ SeqAt.shaped d = true ∧ Q (.bl (ds.any fun z => PyData.eqv z d)) H
theorem op_inT (hu : X.A.units + 65 < cLine) : OpR X (compareOp .In) (rInT X.K) := fun pins s σ H x y v u Q I rx ry h => by
  obtain ⟨a, xs, d, ds, ey, hs, ha, hc, hd, sd, q⟩ := h
  subst ey
  obtain ⟨as, r1⟩ := Dp.reads I d x v hd rx
  obtain ⟨bs, r2⟩ := Dp.reads I (.tuple ds) (.ref a) u (.tup hs ha) ry
  exact SeqAt.in_tuple_reads r2 r1 hc (SeqAt.canLay_of_shaped sd) (room_in_shaped sd hu) ⟨.bl _, H, I, rfl, q⟩
end
theorem strs_dp {K : PySem.W.Frag} {H : Hp} : ∀ ws : List Str, DpAll K H (ws.map V.str) (ws.map PyData.str)
  | [] => .nil
  | w :: ws => .cons (.str w) (strs_dp ws)
theorem layL : PyData.canLayAll0 (wsL.map PyData.str) = true := by simp [wsL, PyData.canLayAll0, PyData.canLay0, show PyData.strOk "source" = true by decide +kernel, show PyData.strOk "address" = true by decide +kernel, show PyData.strOk "door" = true by decide +kernel]
theorem layT : PyData.canLayAll0 (wsT.map PyData.str) = true := by simp [wsT, PyData.canLayAll0, PyData.canLay0, show PyData.strOk "any" = true by decide +kernel, show PyData.strOk "address" = true by decide +kernel, show PyData.strOk "door" = true by decide +kernel]
theorem layU : PyData.canLayAll0 (wsU.map PyData.str) = true := by simp [wsU, PyData.canLayAll0, PyData.canLay0, show PyData.strOk "never" = true by decide +kernel, show PyData.strOk "lent" = true by decide +kernel, show PyData.strOk "inner" = true by decide +kernel]
end Kd
/-! K2: is_kind, require_kind, is_as_loose -/
namespace Kd
open PySem PySem.Spec PyProof.Rows L2
abbrev FnT (K : PySem.W.Frag) (x : Str) (i : Nat) (fd : FuncData) : Prop := FunD K x x (defArgs (top i)) (defBody (top i)) (defScope (top i)) [] [] (He.ga K x) fd
/-- is it a kind: one or the other -/
def IsK (K : PySem.W.Frag) (H : Hp) (v : V) (A B : Prop) : Prop := (∃ k, KindAt K H v k ∧ A) ∨ (NotKind H v ∧ B)
def spIsKind (K : PySem.W.Frag) : Sp := fun vs H Q _ => ∃ v, vs = [v] ∧ ((∃ k, KindAt K H v k ∧ Q (.bl true) H) ∨ (NotKind H v ∧ Q (.bl false) H))
def spReq (K : PySem.W.Frag) : Sp := fun vs H Q E => ∃ v, vs = [v] ∧ ((∃ k, KindAt K H v k ∧ Q .non H) ∨ (NotKind H v ∧ E (CI K) none H))
def spLoose (K : PySem.W.Frag) : Sp := fun vs H Q E => ∃ v u, vs = [v, u] ∧ ((∃ k o, KindAt K H v k ∧ KindAt K H u o ∧ Q (.bl (loose k o)) H) ∨ ((NotKind H v ∨ ∃ k, KindAt K H v k ∧ NotKind H u) ∧ E (CI K) none H))
section
variable {P : Program} {w : World} {K : PySem.W.Frag} {mg : Str → Option Value} {base : Heap}
theorem scK : FnScope ["value", "lending", "letting", "turning"] ["value"] (defScope (top 7)) := ⟨rfl, rfl, rfl, by decide +kernel, rfl, by decide +kernel, by decide +kernel⟩
/-- the type and length of what is asked -/
theorem isi_tuple : kitB "tuple" "tuple" = some true := by decide +kernel
theorem isi_list : kitB "list" "tuple" = some false := by decide +kernel
theorem isi_dict : kitB "dict" "tuple" = some false := by decide +kernel
theorem isi_none : kitB "NoneType" "tuple" = some false := by decide +kernel
theorem isi_bool : kitB "bool" "tuple" = some false := by decide +kernel
theorem isi_int : kitB "int" "tuple" = some false := by decide +kernel
theorem isi_str : kitB "str" "tuple" = some false := by decide +kernel
theorem sqt_ty {H : Hp} {p : Addr} {xs : List V} (h : SqT K H p xs) : TyX K H (.ref p) (.type "tuple") := by
  rcases h with (h | ⟨o, h⟩) | ⟨o, its, n, h, c, _⟩
  · exact .base (.tup h)
  · exact .fTuple h
  · exact .kTuple h c
theorem flat_ty {H : Hp} {v : V} (h : flatV v = true) : ∃ T, TyX K H v (.type T) ∧ kitB T "tuple" = some false := by
  cases v with
  | non => exact ⟨_, .base .non, isi_none⟩
  | bl b => exact ⟨_, .base (.bl b), isi_bool⟩
  | int i => exact ⟨_, .base (.int i), isi_int⟩
  | str x => exact ⟨_, .base (.str x), isi_str⟩
  | _ => exact absurd (show false = true from h) Bool.false_ne_true
/-- a tuple of three, part by part -/
def In3 (K : PySem.W.Frag) (H : Hp) (x y z : V) (b1 b2 b3 : Bool) : Prop :=
  ∃ dx dy dz, (Dp K H x dx ∧ SeqAt.shaped dx = true ∧ anyD wsL dx = b1) ∧ (Dp K H y dy ∧ SeqAt.shaped dy = true ∧ anyD wsT dy = b2) ∧ (Dp K H z dz ∧ SeqAt.shaped dz = true ∧ anyD wsU dz = b3)
theorem okAny : (∀ i : F3, anyD wsL (.str (wL i)) = true) ∧ (∀ i : F3, anyD wsT (.str (wT i)) = true) ∧ (∀ i : F3, anyD wsU (.str (wU i)) = true) := by
  refine ⟨fun i => ?_, fun i => ?_, fun i => ?_⟩
  · simp only [anyD, wsL, List.map, List.any, PyData.eqv]
    revert i
    decide +kernel
  · simp only [anyD, wsT, List.map, List.any, PyData.eqv]
    revert i
    decide +kernel
  · simp only [anyD, wsU, List.map, List.any, PyData.eqv]
    revert i
    decide +kernel
theorem str_shaped {s : Str} (h : PyData.strOk s = true) : SeqAt.shaped (.str s) = true := by simp [SeqAt.shaped, PyData.canLay0, PyData.depth, h]
theorem ite2b {b : Bool} {A B : Prop} (h1 : b = true → A) (h2 : b = false → B) : if b = true then A else B := by
  cases b with
  | true => exact iteT (h1 rfl)
  | false => exact iteF (h2 rfl)
/-- what the body asks, of either sort -/
inductive Sort3 (K : PySem.W.Frag) (H : Hp) : V → Bool → Prop
  | other {v : V} {T : String} : TyX K H v (.type T) → kitB T "tuple" = some false → Sort3 K H v false
  | len {p : Addr} {xs : List V} : SqT K H p xs → xs.length ≠ 3 → Sort3 K H (.ref p) false
  | three {p : Addr} {x y z : V} {b1 b2 b3 : Bool} : SqT K H p [x, y, z] → In3 K H x y z b1 b2 b3 → Sort3 K H (.ref p) (b1 && (b2 && b3))
theorem KindAt.sort {H : Hp} {v : V} {k : Kn} (h : KindAt K H v k) : Sort3 K H v true := by
  obtain ⟨p, rfl, q⟩ := h
  exact .three (b1 := true) (b2 := true) (b3 := true) q ⟨_, _, _, ⟨.str _, str_shaped (okL _), okAny.1 _⟩, ⟨.str _, str_shaped (okT _), okAny.2.1 _⟩, ⟨.str _, str_shaped (okU _), okAny.2.2 _⟩⟩
theorem NotKind.sort {H : Hp} {v : V} (h : NotKind H v) : Sort3 K H v false := by
  cases h with
  | flat f =>
    obtain ⟨T, a, b⟩ := flat_ty (K := K) (H := H) f
    exact .other a b
  | lst e => exact .other (.base (.lst e)) isi_list
  | dic e => exact .other (.base (.dK e)) isi_dict
  | len e l => exact .len (SqT.of e) l
  | bad e a b c q =>
    have z := Sort3.three (K := K) (SqT.of e) ⟨_, _, _, ⟨a.dp, a.shaped, rfl⟩, ⟨b.dp, b.shaped, rfl⟩, ⟨c.dp, c.shaped, rfl⟩⟩
    rw [q] at z
    exact z
theorem ok_isKind {fd : FuncData} (T : Tx K mg) (F : FnT K "is_kind" 7 fd) : FnOk P w K mg base CX0 1 (He.ga K "is_kind") fd ["value"] (spIsKind K) := by
  refine F.ok scK (fun vs H Q E h => ?_) (fun cdv A outer s H vs Q E hr h => ?_)
  · obtain ⟨v, rfl, _⟩ := h
    rfl
  have gi : mg "isinstance" = none := T.fre _ (by decide)
  have gt : mg "tuple" = none := T.fre _ (by decide)
  have gl : mg "len" = none := T.fre _ (by decide)
  have gL : mg "LENDINGS" = some (.ref (He.ga K "LENDINGS")) := T.glo _ (by decide)
  have gT : mg "LETTINGS" = some (.ref (He.ga K "LETTINGS")) := T.glo _ (by decide)
  have gU : mg "TURNINGS" = some (.ref (He.ga K "TURNINGS")) := T.glo _ (by decide)
  have hu : (A.deeper (envOfC "is_kind" (defScope (top 7)) s.heap.objs.size (He.ga K "is_kind") cdv)).units + 65 < cLine := by
    have := hr.un
    omega
  refine ⟨_, PSs.nox (pss_cons (ps_if (PW.pt (pw_or (pt_not (pt_val (pe_callB call_isi rfl gi boot_isinstance (pa_cons (pv 0) (pa_cons (pe_bltn (v := .ty "tuple") rfl gt PyProof.Rows.boot_tuple rfl) pa_nil)))))
      (pw_or1 (pt_cmpR op_ne (pe_callB call_len rfl gl boot_len (pa_cons (pv 0) pa_nil)) pe_int (nomark _))))) (pss_one (ps_ret pe_bl)) pss_nil)
    (pss_cons (ps_asg (pv 0) (pg_tup rfl (pgs_cons (pg_name (i := 1) scK.nd rfl (.inl rfl)) (pgs_cons (pg_name (i := 2) scK.nd rfl (.inl rfl)) (pgs_cons (pg_name (i := 3) scK.nd rfl (.inl rfl)) pgs_nil)))))
    (pss_one (ps_ret (pe_and (pe_cmpR (op_inT hu) (pv 1) (pe_glob (v := .ref (He.ga K "LENDINGS")) rfl gL rfl) rfl) (pe_and (pe_cmpR (op_inT hu) (pv 2) (pe_glob (v := .ref (He.ga K "LETTINGS")) rfl gT rfl) rfl)
      (pe_one (pe_cmpR (op_inT hu) (pv 3) (pe_glob (v := .ref (He.ga K "TURNINGS")) rfl gU rfl) rfl)))))))), ?_⟩
  obtain ⟨v, rfl, hv⟩ := h
  obtain ⟨b, hb, hQ⟩ : ∃ b, Sort3 K H v b ∧ Q (.bl b) H := by
    rcases hv with ⟨k, hk, q⟩ | ⟨hn, q⟩
    · exact ⟨true, hk.sort, q⟩
    · exact ⟨false, hn.sort, q⟩
  cases hb with
  | other ty kb => exact ⟨_, rfl, _, _, _, _, false, rfl, .ty "tuple", ty, kit_ty kb, _, rfl, iteT hQ⟩
  | @len p xs hs hl =>
    refine ⟨_, rfl, _, _, _, _, true, rfl, .ty "tuple", sqt_ty hs, kit_ty isi_tuple, _, rfl, iteF ?_⟩
    refine ⟨_, rfl, _, _, rfl, .inr ⟨_, hs, rfl⟩, rfl, _, rfl, ?_⟩
    rw [dec_int]
    have e : ((xs.length : Int) == 3) = false := by simpa using (show ¬ ((xs.length : Int) = 3) by omega)
    rw [e]
    exact iteT hQ
  | three hs h3 =>
    obtain ⟨dx, dy, dz, ⟨x1, x2, x3⟩, ⟨y1, y2, y3⟩, ⟨z1, z2, z3⟩⟩ := h3
    refine ⟨_, rfl, _, _, _, _, true, rfl, .ty "tuple", sqt_ty hs, kit_ty isi_tuple, _, rfl, iteF ?_⟩
    refine ⟨_, rfl, _, _, rfl, .inr ⟨_, hs, rfl⟩, rfl, _, rfl, iteF ?_⟩
    refine ⟨_, rfl, _, _, rfl, hs, rfl, _, _, rfl, _, _, rfl, _, _, rfl, rfl, ?_⟩
    refine ⟨_, rfl, _, _, _, _, rfl, T.L.sq _, strs_dp _, layL, x1, x2, _, rfl, ?_⟩
    show (if anyD wsL dx = true then _ else _)
    rw [x3]
    refine ite2b (fun e => ?_) (fun e => by rw [e] at hQ; exact hQ)
    rw [e] at hQ
    refine ⟨_, rfl, _, _, _, _, rfl, T.T.sq _, strs_dp _, layT, y1, y2, _, rfl, ?_⟩
    show (if anyD wsT dy = true then _ else _)
    rw [y3]
    refine ite2b (fun e => ?_) (fun e => by rw [e] at hQ; exact hQ)
    rw [e] at hQ
    refine ⟨_, rfl, _, _, _, _, rfl, T.U.sq _, strs_dp _, layU, z1, z2, ?_⟩
    show Q (.bl (anyD wsU dz)) H
    rw [z3]
    exact hQ
theorem FunD.has {CX : CXT} {k : Nat} {x : Str} {i : Nat} {fd : FuncData} {ps : List Str} {sp : Sp} (T : Tx K mg) (F : FnT K x i fd) (h : FnOk P w K mg base CX k (He.ga K x) fd ps sp) (hx : x ∈ glos)
    (hb : ∀ (kV doc pm : Value) (an : Option Addr) (cdv ct : Value) (us : List Value), us.length = ps.length → bindArgs (PySem.W.fnOf x x (defArgs (top i)) (defBody (top i)) (defScope (top i)) .none kV doc pm an cdv ct) ⟨us, []⟩ = pure (ps.zip us)) : Has P w K mg base CX k x ps sp :=
  ⟨fd, h, F.kp, FunD.bindsN F hb, T.glo x hx⟩
theorem has_isKind {fd : FuncData} (T : Tx K mg) (F : FnT K "is_kind" 7 fd) : Has P w K mg base CX0 1 "is_kind" ["value"] (spIsKind K) :=
  FunD.has T F (ok_isKind T F) (by decide) fun _ _ _ _ _ _ us hl => match us, hl with | [_], _ => rfl
/-! ### require_kind -/
theorem scR : FnScope ["kind"] ["kind"] (defScope (top 8)) := ⟨rfl, rfl, rfl, by decide +kernel, rfl, by decide +kernel, by decide +kernel⟩
theorem ok_req {fd : FuncData} (T : Tx K mg) (F : FnT K "require_kind" 8 fd) (h1 : Has P w K mg base CX0 1 "is_kind" ["value"] (spIsKind K)) : FnOk P w K mg base (L2.CX P w) 2 (He.ga K "require_kind") fd ["kind"] (spReq K) := by
  refine F.ok scR (fun vs H Q E h => ?_) (fun cdv A outer s H vs Q E hr h => ⟨_, pss_one (ps_if (pt_not (pt_val (pe_has h1 hr pass0 (pa_cons (pv 0) pa_nil)))) (pss_one (ps_raise rfl (takes_of rfl rfl rfl rfl)
    (pmk_own PySem.F.excBase_ValueError T.xI (T.glo _ (by decide)) T.kI (raises_own T.bI T.tI) (by exact rfl)))) pss_nil), ?_⟩)
  · obtain ⟨v, rfl, _⟩ := h
    rfl
  obtain ⟨v, rfl, h⟩ := h
  refine ⟨_, rfl, _, rfl, ?_⟩
  rcases h with ⟨k, hk, q⟩ | ⟨hn, q⟩
  · exact .inl ⟨k, hk, _, rfl, iteF q⟩
  · exact .inr ⟨hn, _, rfl, iteT q⟩
theorem has_req {fd : FuncData} (T : Tx K mg) (F : FnT K "require_kind" 8 fd) (h1 : Has P w K mg base CX0 1 "is_kind" ["value"] (spIsKind K)) : Has P w K mg base (L2.CX P w) 2 "require_kind" ["kind"] (spReq K) :=
  FunD.has T F (ok_req T F h1) (by decide) fun _ _ _ _ _ _ us hl => match us, hl with | [_], _ => rfl
/-! ### is_as_loose -/
theorem scA : FnScope ["kind", "other"] ["kind", "other"] (defScope (top 9)) := ⟨rfl, rfl, rfl, by decide +kernel, rfl, by decide +kernel, by decide +kernel⟩
theorem ixL : ∀ i : F3, wsL[i.val]? = some (wL i) ∧ ∀ m, m < i.val → wsL[m]? ≠ some (wL i) := by decide +kernel
theorem ixT : ∀ i : F3, wsT[i.val]? = some (wT i) ∧ ∀ m, m < i.val → wsT[m]? ≠ some (wT i) := by decide +kernel
theorem ok_loose {fd : FuncData} (T : Tx K mg) (F : FnT K "is_as_loose" 9 fd) (h1 : Has P w K mg base (L2.CX P w) 2 "require_kind" ["kind"] (spReq K)) : FnOk P w K mg base (L2.CX P w) 3 (He.ga K "is_as_loose") fd ["kind", "other"] (spLoose K) := by
  have gL : mg "LENDINGS" = some (.ref (He.ga K "LENDINGS")) := T.glo _ (by decide)
  have gT : mg "LETTINGS" = some (.ref (He.ga K "LETTINGS")) := T.glo _ (by decide)
  refine F.ok scA (fun vs H Q E h => ?_) (fun cdv A outer s H vs Q E hr h => ⟨_, pss_cons (ps_expr (pe_has h1 hr (passes_call (takes_of rfl rfl rfl rfl) (E := E) (fun _ _ _ _ z => z)) (pa_cons (pv 0) pa_nil)))
    (pss_cons (ps_expr (pe_has h1 hr (passes_call (takes_of rfl rfl rfl rfl) (E := E) (fun _ _ _ _ z => z)) (pa_cons (pv 1) pa_nil)))
    (pss_cons (ps_if (PW.pt (pw_or (pt_cmpR op_gt (pe_bm PySem.F.plainAttrs_tuple PySem.F.slot_tuple_index PySem.F.type_tuple_index mt_tup_index (pe_glob (v := .ref (He.ga K "LENDINGS")) rfl gL rfl) (pa_cons (pe_ix ix_tup (pv 0) pe_int (fun _ _ => rfl)) pa_nil))
        (pe_bm PySem.F.plainAttrs_tuple PySem.F.slot_tuple_index PySem.F.type_tuple_index mt_tup_index (pe_glob (v := .ref (He.ga K "LENDINGS")) rfl gL rfl) (pa_cons (pe_ix ix_tup (pv 1) pe_int (fun _ _ => rfl)) pa_nil)) (nomark _))
      (pw_or1 (pt_cmpR op_gt (pe_bm PySem.F.plainAttrs_tuple PySem.F.slot_tuple_index PySem.F.type_tuple_index mt_tup_index (pe_glob (v := .ref (He.ga K "LETTINGS")) rfl gT rfl) (pa_cons (pe_ix ix_tup (pv 0) pe_int (fun _ _ => rfl)) pa_nil))
        (pe_bm PySem.F.plainAttrs_tuple PySem.F.slot_tuple_index PySem.F.type_tuple_index mt_tup_index (pe_glob (v := .ref (He.ga K "LETTINGS")) rfl gT rfl) (pa_cons (pe_ix ix_tup (pv 1) pe_int (fun _ _ => rfl)) pa_nil)) (nomark _)))))
      (pss_one (ps_ret pe_bl)) pss_nil)
    (pss_one (ps_ret (pe_or (pe_cmpR op_eq (pe_ix ix_tup (pv 0) pe_int (fun _ _ => rfl)) (pe_ix ix_tup (pv 1) pe_int (fun _ _ => rfl)) (nomark _)) (pe_one (pe_cmpR op_eq (pe_ix ix_tup (pv 1) pe_int (fun _ _ => rfl)) pe_str (nomark _)))))))), ?_⟩)
  · obtain ⟨v, u, rfl, _⟩ := h
    rfl
  obtain ⟨v, u, rfl, h⟩ := h
  rcases h with ⟨k, o, hk, ho, q⟩ | ⟨hn | ⟨k, hk, hn⟩, q⟩
  · have tL : ∀ H, tyV K "tuple" (.ref (He.ga K "LENDINGS")) H := fun H => .inr (.inl ⟨rfl, T.L.ob⟩)
    have tT : ∀ H, tyV K "tuple" (.ref (He.ga K "LETTINGS")) H := fun H => .inr (.inl ⟨rfl, T.T.ob⟩)
    obtain ⟨pk, rfl, sk⟩ := id hk
    obtain ⟨po, rfl, so⟩ := id ho
    refine ⟨_, rfl, _, rfl, .inl ⟨k, hk, ?_⟩⟩
    refine ⟨_, rfl, _, rfl, .inl ⟨o, ho, ?_⟩⟩
    have q' : Q (.bl (loose k o)) H := q
    refine ⟨tL _, _, rfl, pk, _, _, _, rfl, rfl, sk, rfl, _, wsL, wL k.1, k.1.val, rfl, rfl, T.L.sq _, (ixL _).1, (ixL _).2, ?_⟩
    refine ⟨tL _, _, rfl, po, _, _, _, rfl, rfl, so, rfl, _, wsL, wL o.1, o.1.val, rfl, rfl, T.L.sq _, (ixL _).1, (ixL _).2, ?_⟩
    refine ⟨_, _, rfl, rfl, _, rfl, ite2b (fun e => ?_) fun e => ?_⟩
    · have lo : loose k o = false := by
        have z := of_decide_eq_true e
        have z2 : ¬ k.1 ≤ o.1 := fun c => by
          have c' : k.1.val ≤ o.1.val := c
          omega
        simp [loose, z2]
      rw [lo] at q'
      exact iteT q'
    have l1 : decide (k.1 ≤ o.1) = true := by
      have z := of_decide_eq_false e
      exact decide_eq_true (show k.1.val ≤ o.1.val by omega)
    refine ⟨tT _, _, rfl, pk, _, _, _, rfl, rfl, sk, rfl, _, wsT, wT k.2.1, k.2.1.val, rfl, rfl, T.T.sq _, (ixT _).1, (ixT _).2, ?_⟩
    refine ⟨tT _, _, rfl, po, _, _, _, rfl, rfl, so, rfl, _, wsT, wT o.2.1, o.2.1.val, rfl, rfl, T.T.sq _, (ixT _).1, (ixT _).2, ?_⟩
    refine ⟨_, _, rfl, rfl, _, rfl, ite2b (fun e => ?_) fun e => ?_⟩
    · have lo : loose k o = false := by
        have z := of_decide_eq_true e
        have z2 : ¬ k.2.1 ≤ o.2.1 := fun c => by
          have c' : k.2.1.val ≤ o.2.1.val := c
          omega
        simp [loose, z2]
      rw [lo] at q'
      exact q'
    have l2 : decide (k.2.1 ≤ o.2.1) = true := by
      have z := of_decide_eq_false e
      exact decide_eq_true (show k.2.1.val ≤ o.2.1.val by omega)
    have e3 : loose k o = (decide (k.2.2 = o.2.2) || decide (o.2.2 = 0)) := by
      unfold loose
      rw [l1, l2, Bool.true_and, Bool.true_and]
    rw [e3] at q'
    have d1 : decide (V.str (wU k.2.2) = V.str (wU o.2.2)) = decide (k.2.2 = o.2.2) := by
      rw [dec_str]
      exact wU_eq _ _
    have d2 : decide (V.str (wU o.2.2) = V.str "never") = decide (o.2.2 = 0) := by
      rw [dec_str]
      exact wU_eq o.2.2 0
    refine ⟨_, rfl, pk, _, _, _, rfl, rfl, sk, rfl, ?_⟩
    refine ⟨_, rfl, po, _, _, _, rfl, rfl, so, rfl, rfl, decide (k.2.2 = o.2.2), ?_, ite2b (fun e => ?_) fun e => ?_⟩
    · exact congrArg V.bl d1
    · rw [e] at q'
      exact q'
    · rw [e] at q'
      refine ⟨_, rfl, po, _, _, _, rfl, rfl, so, rfl, rfl, ?_⟩
      show Q (.bl (decide (V.str (wU o.2.2) = V.str "never"))) H
      rw [d2]
      exact q'
  · exact ⟨_, rfl, _, rfl, .inr ⟨hn, q⟩⟩
  · exact ⟨_, rfl, _, rfl, .inl ⟨k, hk, _, rfl, _, rfl, .inr ⟨hn, q⟩⟩⟩
theorem has_loose {fd : FuncData} (T : Tx K mg) (F : FnT K "is_as_loose" 9 fd) (h1 : Has P w K mg base (L2.CX P w) 2 "require_kind" ["kind"] (spReq K)) : Has P w K mg base (L2.CX P w) 3 "is_as_loose" ["kind", "other"] (spLoose K) :=
  FunD.has T F (ok_loose T F h1) (by decide) fun _ _ _ _ _ _ us hl => match us, hl with | [_, _], _ => rfl
end
end Kd
/-! K3: a generator's body for a consumer of any kind -/
namespace Kd
open PySem PySem.Spec PyProof.Rows L2 GenW

/-- what draws: its own objects, what it knows of them when so much is out -/
structure Con where
  cs : List Addr
  CI : List V → Heap → Prop
  stay : ∀ {ys : List V} {h h' : Heap}, (∀ b ∈ cs, ∀ o, h.get? b = some o → h'.get? b = some o) → CI ys h → CI ys h'
  has : ∀ {ys : List V} {h : Heap}, CI ys h → ∀ b ∈ cs, ∃ o, h.get? b = some o ∧ ∀ v, o.data ≠ .cell v
/-- the generator sleeps -/
structure Slp (C : Con) (ys : List V) (s s' : Shared) : Prop where
  os : s'.os = s.os
  bare : AllBare s'.gens
  keep : ∀ b o, b ∉ C.cs → s.heap.get? b = some o → s'.heap.get? b = some o
  ci : C.CI ys s'.heap
/-- it runs: ys is out, ip its own iterators -/
def GJ (X : Cx) (C : Con) (ip : List (Addr × Obj)) (ys : List V) (σ : L2.St) (H : Hp) (s : Shared) : Prop :=
  ∃ hp : Heap, C.CI ys hp ∧ Inv X (pinsAt C.cs hp ++ ip) σ H s
/-- the drawer's objects lie behind the entry, apart from the frame -/
structure Off (X : Cx) (C : Con) (ip : List (Addr × Obj)) : Prop where
  pn : ∀ p ∈ X.pn, p.1 ∉ C.cs
  ip : ∀ p ∈ ip, p.1 ∉ C.cs
  young : ∀ b ∈ C.cs, X.s_0.heap.objs.size ≤ b ∧ b ≠ X.env.locals ∧ ∀ x c, X.env.cells.lookup x = some c → c ≠ b
section
variable {X : Cx} {C : Con} {ip : List (Addr × Obj)} {ys : List V} {σ : L2.St} {H : Hp} {s : Shared}
theorem GJ.pin (g : GJ X C ip ys σ H s) : ∀ b ∈ C.cs, H b = none ∧ b ≠ X.env.locals ∧ b ∉ X.fs := fun b hb => by
  obtain ⟨hp, ci, I⟩ := g
  obtain ⟨o, e, _⟩ := C.has ci b hb
  obtain ⟨_, q2, q3, q4, _⟩ := I.pin (b, o) (List.mem_append_right _ (List.mem_append_left _ (mem_pinsAt hb e)))
  exact ⟨q2, q3, q4⟩
theorem GJ.ci (g : GJ X C ip ys σ H s) : C.CI ys s.heap := by
  obtain ⟨hp, ci, I⟩ := g
  exact C.stay (fun b hb o e => (I.pin (b, o) (List.mem_append_right _ (List.mem_append_left _ (mem_pinsAt hb e)))).1) ci
theorem GJ.bareInv (g : GJ X C ip ys σ H s) : Inv X ip σ H s := by
  obtain ⟨hp, ci, I⟩ := g
  exact I.pins_of fun p hp => I.pin p (List.mem_append_right _ (List.mem_append_right _ hp))
theorem GJ.mk (ci : C.CI ys s.heap) (I : Inv X ip σ H s) (fr : ∀ b ∈ C.cs, H b = none ∧ b ≠ X.env.locals ∧ b ∉ X.fs) : GJ X C ip ys σ H s := by
  refine ⟨s.heap, ci, I.pins_of fun p hp => ?_⟩
  rcases List.mem_append.mp hp with z | z
  · obtain ⟨hb, e⟩ := of_pinsAt z
    obtain ⟨q1, q2, q3⟩ := fr _ hb
    obtain ⟨o, e', d⟩ := C.has ci _ hb
    rw [e] at e'
    cases e'
    exact ⟨e, q1, q2, q3, d⟩
  · exact I.pin p (List.mem_append_right _ z)
/-- another set of iterators -/
theorem GJ.withIp {ip' : List (Addr × Obj)} (g : GJ X C ip ys σ H s) (J : Inv X ip' σ H s) : GJ X C ip' ys σ H s := GJ.mk g.ci J g.pin
theorem GJ.woke {x : V} {s' : Shared} (O : Off X C ip) (g : GJ X C ip ys σ H s) (z : Slp C (ys ++ [x]) s s') : GJ X C ip (ys ++ [x]) σ H s' := by
  have I := g.bareInv
  have fr := g.pin
  have nt : ∀ b u, H b = some u → b ∉ C.cs := fun b u q hb => by
    rw [(fr b hb).1] at q
    cases q
  obtain ⟨z1, z2, z3, z4⟩ := z
  obtain ⟨hh, g', d', t', o'⟩ := s'
  have ho : o' = s.os := z1
  subst ho
  have J : Inv X ip σ H { s with heap := hh, gens := g', drawn := d', toks := t' } := by
    refine I.step (ch := C.cs) (fun b hb => ⟨.inr (O.young b hb).1, (O.young b hb).2.1, (O.young b hb).2.2, fun p hp e => ?_⟩) (fun b ob _ _ hc q _ => z3 b ob hc q)
      (fun b ob _ _ hc q _ => ⟨ob.slots, z3 b ob hc q⟩) (fun _ _ _ _ n => n) (fun b ob hc q => ⟨ob, z3 b ob hc q⟩) (fun _ _ q => q) (fun _ _ _ q => q) (fun b ps q => ⟨#[], by simp [q]⟩) (fun m hm => ?_) (fun b u q => ?_) z2
    · rcases List.mem_append.mp hp with hp | hp
      · exact O.pn p hp (by rw [e]; exact hb)
      · exact O.ip p hp (by rw [e]; exact hb)
    · obtain ⟨ob, es, ep, ho, r⟩ := hm
      exact ⟨ob, es, ep, z3 _ ob (fun hm => (fr _ hm).2.1 rfl) ho, r⟩
    · refine (I.hok b u q).stay (fun c v hc y => z3 c v ?_ y) (fun _ y => y) fun _ _ y => y
      rcases hc with y | y
      · rw [y]
        exact nt b u q
      · exact nt c _ y
  exact GJ.mk z4 J fr
end

/-! ### the protocol: N the most that comes out; Yd what is told at each -/
def YJ (X : Cx) (C : Con) (N : Nat) (Yd : List V → V → Hp → Prop) : Protocol := fun n s₀ v s kap =>
  ∃ ys x ip σ H, n + 1 + ys.length = N ∧ RelV x v ∧ GJ X C ip ys σ H s ∧ Yd ys x H ∧ ∀ s', Slp C (ys ++ [x]) s s' → kap (.send .none) s'
def RJ (X : Cx) (C : Con) (N : Nat) (Q : List V → Hp → Prop) (F : Value → Shared → Prop) : GenEnd := fun n s₀ r s => match r with
  | .ok (.ret u) => u = .none ∧ ∃ ys ip σ H, n + ys.length = N ∧ GJ X C ip ys σ H s ∧ Q ys H
  | .ok _ => False
  | .error e => F e s
structure JEnds where
  nx : List V → L2.St → Hp → Prop
  rt : List V → VK := fun _ _ _ => False
  bk : List V → L2.St → Hp → Prop := fun _ _ _ => False
  ct : List V → L2.St → Hp → Prop := fun _ _ _ => False
abbrev TJ := JEnds → List V → L2.St → Hp → Prop
def JEnds.at (D : JEnds) (ys : List V) : Ends := { nx := D.nx ys, rt := D.rt ys, bk := D.bk ys, ct := D.ct ys }
def JSP (X : Cx) (C : Con) (ip : List (Addr × Obj)) (D : JEnds) (ys : List V) (f : Flow) (s : Shared) : Prop :=
  match f with
  | .next => ∃ σ H, GJ X C ip ys σ H s ∧ D.nx ys σ H
  | .brk => ∃ σ H, GJ X C ip ys σ H s ∧ D.bk ys σ H
  | .cont => ∃ σ H, GJ X C ip ys σ H s ∧ D.ct ys σ H
  | .ret u => ∃ v σ H, GJ X C ip ys σ H s ∧ RelV v u ∧ D.rt ys v H
structure JC (X : Cx) (C : Con) (ip : List (Addr × Obj)) (A : Around) (c : Code) (fs : List Frame) (gd : Bool → Bool) : Prop where
  off : Off X C ip
  over : A.over c fs = X.A
  split : splitAtGen fs = none
  guard : fs.any Frame.guarded = false
  gd : gd false = false
structure JK (X : Cx) (C : Con) (N : Nat) (Yd : List V → V → Hp → Prop) (ip : List (Addr × Obj)) (A : Around) (R : GenEnd) (c : Code) (fs : List Frame) (K : Flow → Sem PySem.Fin) (J : Value → Sem PySem.Fin) (D : JEnds) : Prop where
  ok : ∀ (n : Nat) (ys : List V) (s₀ s : Shared) (f : Flow), n + ys.length = N → JSP X C ip D ys f s → Seg (model X.prog X.w) A R (YJ X C N Yd) n s₀ c (K f) fs s
  exc : ∀ (n : Nat) (s₀ : Shared) (e : Value) (s : Shared), X.xe e s → Seg (model X.prog X.w) A R (YJ X C N Yd) n s₀ c (J e) fs s
def JRun (X : Cx) (C : Con) (N : Nat) (Yd : List V → V → Hp → Prop) (m : Sem Flow) (t : TJ) : Prop :=
  ∀ (A : Around) (ip : List (Addr × Obj)) (R : GenEnd) (n : Nat) (ys : List V) (s₀ : Shared) (c : Code) (fs : List Frame) (K : Flow → Sem PySem.Fin) (J : Value → Sem PySem.Fin) (gd : Bool → Bool) (lv : List Value → List Value) (s : Shared) (σ : L2.St) (H : Hp) (D : JEnds),
    JC X C ip A c fs gd → n + ys.length = N → JK X C N Yd ip A R c fs K J D → GJ X C ip ys σ H s → t D ys σ H → Seg (model X.prog X.w) A R (YJ X C N Yd) n s₀ c (m.wrap K J gd lv) fs s
abbrev JS (X : Cx) (C : Con) (N : Nat) (Yd : List V → V → Hp → Prop) (st : Stmt) (t : TJ) : Prop := JRun X C N Yd (exec st X.env) t
abbrev JSs (X : Cx) (C : Con) (N : Nat) (Yd : List V → V → Hp → Prop) (st : List Stmt) (t : TJ) : Prop := JRun X C N Yd (execs st X.env) t

section
variable {X : Cx} {C : Con} {N : Nat} {Yd : List V → V → Hp → Prop} {st : Stmt} {rest : List Stmt}
theorem jsp_of {ip : List (Addr × Obj)} {hp : Heap} {D : JEnds} {ys : List V} {f : Flow} {s : Shared} (ci : C.CI ys hp) (h : SP X (pinsAt C.cs hp ++ ip) (D.at ys) f s) : JSP X C ip D ys f s := by
  cases f with
  | next => exact h.imp fun σ h => h.imp fun H q => ⟨⟨hp, ci, q.1⟩, q.2⟩
  | brk => exact h.imp fun σ h => h.imp fun H q => ⟨⟨hp, ci, q.1⟩, q.2⟩
  | cont => exact h.imp fun σ h => h.imp fun H q => ⟨⟨hp, ci, q.1⟩, q.2⟩
  | ret u => exact h.imp fun v h => h.imp fun σ h => h.imp fun H q => ⟨⟨hp, ci, q.1⟩, q.2⟩
/-- a statement that hands out nothing -/
def tjPlain (t : TS) : TJ := fun D ys σ H => t (D.at ys) σ H
theorem js_plain {t : TS} (h : PS X st t) : JS X C N Yd st (tjPlain t) := fun A ip R n ys s₀ c fs K J gd lv s σ H D g hn k hI ht => by
  obtain ⟨hp, ci, I⟩ := hI
  refine seg_wrap ?_
  rw [g.over]
  exact wpAny_mono (h.run _ s σ H _ I ht) (fun f s' q => k.ok n ys s₀ s' f hn (jsp_of ci q)) fun x s' q => k.exc n s₀ x s' q
def tjNil : TJ := fun D ys σ H => D.nx ys σ H
theorem jss_nil : JSs X C N Yd [] tjNil := fun A ip R n ys s₀ c fs K J gd lv s σ H D g hn k hI ht => seg_execs_nil (k.ok n ys s₀ s .next hn ⟨σ, H, hI, ht⟩)
def tjThen (t u : TJ) : TJ := fun D ys σ H => t { D with nx := fun ys' σ' H' => u D ys' σ' H' } ys σ H
theorem jss_cons {t u : TJ} (a : JS X C N Yd st t) (b : JSs X C N Yd rest u) : JSs X C N Yd (st :: rest) (tjThen t u) := fun A ip R n ys s₀ c fs K J gd lv s σ H D g hn k hI ht => by
  refine seg_execs_cons (a A ip R n ys s₀ c fs _ J gd lv s σ H _ g hn ⟨fun n' ys' s₀' s' f hn' q => ?_, k.exc⟩ hI ht)
  cases f with
  | next =>
    obtain ⟨σ', H', I', q'⟩ := q
    exact b A ip R n' ys' s₀' c fs K J gd lv s' σ' H' D g hn' k I' q'
  | brk => exact k.ok n' ys' s₀' s' .brk hn' q
  | cont => exact k.ok n' ys' s₀' s' .cont hn' q
  | ret u => exact k.ok n' ys' s₀' s' (.ret u) hn' q
/-- if: the body may hand out -/
def tjIf (c : TT) (t u : TJ) : TJ := fun D ys σ H => c σ H fun b H1 => if b = true then t D ys σ H1 else u D ys σ H1
theorem js_if {test : Expr} {body orelse : List Stmt} {pos : Pos} {tc : TT} {t u : TJ} (hc : PT X test tc) (a : JSs X C N Yd body t) (b : JSs X C N Yd orelse u) : JS X C N Yd (.If test body orelse pos) (tjIf tc t u) := fun A ip R n ys s₀ c fs K J gd lv s σ H D g hn k hI ht => by
  obtain ⟨hp, ci, I⟩ := hI
  rw [exec_If]
  refine seg_bind_wrap (wpAny_standAt ?_)
  refine seg_bind_wrap ?_
  rw [g.over]
  refine wpAny_mono (hc.run _ s σ H _ I ht) (fun d s' q => ?_) fun x s' q => k.exc n s₀ x s' q
  obtain ⟨H1, I1, q1⟩ := q
  cases d with
  | true => exact a A ip R n ys s₀ c fs K J gd lv s' σ H1 D g hn k ⟨hp, ci, I1⟩ q1
  | false => exact b A ip R n ys s₀ c fs K J gd lv s' σ H1 D g hn k ⟨hp, ci, I1⟩ q1
/-- yield e -/
def tjYield (N : Nat) (Yd : List V → V → Hp → Prop) (te : TE) : TJ := fun D ys σ H => ys.length < N ∧ te σ H fun x H1 => Yd ys x H1 ∧ D.nx (ys ++ [x]) σ H1
theorem js_yield {e : Expr} {yp pos : Pos} {te : TE} (he : PE X e te) (hco : X.env.scope.isCoroutine = false := by rfl) (hi : interactive X.env = false := by rfl) :
    JS X C N Yd (.Expr (.Yield (some e) yp) pos) (tjYield N Yd te) := fun A ip R n ys s₀ c fs K J gd lv s σ H D g hn k hI ht => by
  obtain ⟨hlt, ht⟩ := ht
  obtain ⟨n, rfl⟩ : ∃ m, n = m + 1 := ⟨n - 1, by omega⟩
  obtain ⟨hp, ci, I⟩ := hI
  refine seg_Expr_Yield g.split g.gd g.guard ?_ hco hi
  rw [g.over]
  refine wpAny_mono (he.run _ s σ H _ I ht) (fun v s' q => ?_) fun x s' q => k.exc _ s₀ x s' q
  obtain ⟨x, H1, I1, rv, qy, qn⟩ := q
  have G1 : GJ X C ip ys σ H1 s' := ⟨hp, ci, I1⟩
  refine fun kap hk => ⟨ys, x, ip, σ, H1, hn, rv, G1, qy, fun s'' z => hk .none s'' (k.ok n (ys ++ [x]) s'' s'' .next ?_ ⟨σ, H1, G1.woke g.off z, qn⟩)⟩
  simp only [List.length_append, List.length_singleton]
  omega
end
end Kd
/-! K3b: a for whose body hands out -/
namespace Kd
open PySem PySem.Spec PyProof.Rows L2 GenW
/-- the frame that a loop's code is called from -/
abbrev backK (env : Env) (K : Flow → Sem PySem.Fin) (J : Value → Sem PySem.Fin) (gd : Bool → Bool) (lv : List Value → List Value) : Result → Sem PySem.Fin :=
  fun r => ((match r with | .ok f => (.pure f : Sem Flow) | .error e => .raise e).onRaise (cameBack env)).wrap K J gd lv
section
variable {prog : Program} {w : World} {A : Around} {R : GenEnd} {Y : Protocol} {n : Nat} {s₀ : Shared} {fs : List Frame} {s : Shared} {env : Env}
theorem seg_For {c : Code} {tg iter : Expr} {body orelse : List Stmt} {pos : Pos} {K : Flow → Sem PySem.Fin} {J : Value → Sem PySem.Fin} {gd : Bool → Bool} {lv : List Value → List Value} (hs : ∀ x, foldedSetIterable iter env x = pure x)
    (h : wpAny (model prog w) (A.over c fs) (eval iter env) (fun x s1 => wpAny (model prog w) (A.over c fs) (pyIter x) (fun it s2 => ∀ p, Seg (model prog w) A R Y n s₀ (.forLoop tg it body orelse env) ((model prog w).den (.forLoop tg it body orelse env))
      (.ret (backK env K J gd lv) none (gd false) (lv []) c p [] :: fs) s2) (fun e s' => Seg (model prog w) A R Y n s₀ c (J e) fs s') s1) (fun e s' => Seg (model prog w) A R Y n s₀ c (J e) fs s') s) :
    Seg (model prog w) A R Y n s₀ c ((exec (.For tg iter body orelse pos) env).wrap K J gd lv) fs s := by
  rw [exec_For]
  refine seg_bind_wrap (wpAny_standAt ?_)
  refine seg_bind_wrap (wpAny_mono h (fun x s1 h1 => ?_) fun _ _ z => z)
  refine seg_bind_wrap (wpAny_of_eq (hs x) ?_)
  refine seg_bind_wrap (wpAny_standAt ?_)
  refine seg_bind_wrap (wpAny_holding (wpAny_mono h1 (fun it s2 h2 => ?_) fun _ _ z => z))
  exact seg_call h2
/-- what a loop does with an exception of its turn -/
abbrev loopJ (env : Env) : Value → Sem PySem.Fin := fun e => (do noteFrame e env; theTreesLotGoes e : Sem Unit).wrap (fun _ => .raise e) .raise id id
theorem seg_forTurn {tg : Expr} {it : Value} {body orelse : List Stmt}
    (h : wpAny (model prog w) (A.over (.forLoop tg it body orelse env) fs) (pyNext it) (fun r s1 => match r with
      | none => Seg (model prog w) A R Y n s₀ (.block orelse env) ((model prog w).den (.block orelse env)) fs s1
      | some v => wpAny (model prog w) (A.over (.forLoop tg it body orelse env) fs) (letOwnedTupleGo tg it v) (fun _ s2 => wpAny (model prog w) (A.over (.forLoop tg it body orelse env) fs) (assign tg env v) (fun _ s3 =>
          Seg (model prog w) A R Y n s₀ (.forLoop tg it body orelse env) ((execs body env).wrap (fun f => match f with
            | .next => .pure (.again (.forLoop tg it body orelse env))
            | .cont => .pure (.again (.forLoop tg it body orelse env))
            | .brk => .pure (.done .next)
            | .ret u => .pure (.done (.ret u))) (loopJ env) id id) fs s3)
          (fun e s' => Seg (model prog w) A R Y n s₀ (.forLoop tg it body orelse env) (loopJ env e) fs s') s2) (fun e s' => Seg (model prog w) A R Y n s₀ (.forLoop tg it body orelse env) (loopJ env e) fs s') s1)
      (fun e s' => Seg (model prog w) A R Y n s₀ (.forLoop tg it body orelse env) (loopJ env e) fs s') s) :
    Seg (model prog w) A R Y n s₀ (.forLoop tg it body orelse env) ((model prog w).den (.forLoop tg it body orelse env)) fs s := by
  have hJ : ∀ e, ((do noteFrame e env; theTreesLotGoes e : Sem Unit).bind fun _ => (.raise e : Sem PySem.Fin)) = loopJ env e := fun e => Sem.bind_eq_wrap _ _
  show Seg _ A R Y n s₀ _ ((forTurn tg it body orelse env).onRaise (fun x => do noteFrame x env; theTreesLotGoes x)) fs s
  rw [Sem.onRaise_eq_wrap]
  unfold forTurn
  refine seg_bind_wrap (wpAny_standAt ?_)
  refine seg_bind_wrap (wpAny_onRaise (wpAny_mono h (fun r s1 h1 => ?_) fun e s' h' => wpAny_standAt (by rw [hJ]; exact h')))
  cases r with
  | none => exact seg_again rfl h1
  | some v =>
    refine seg_bind_wrap (wpAny_mono h1 (fun _ s2 h2 => ?_) fun e s' h' => by rw [hJ]; exact h')
    refine seg_bind_wrap (wpAny_mono h2 (fun _ s3 h3 => ?_) fun e s' h' => by rw [hJ]; exact h')
    rw [Sem.bind_eq_wrap', Sem.wrap_wrap]
    have hK : ∀ f : Flow, ((match f with
        | .next => again (.forLoop tg it body orelse env)
        | .cont => again (.forLoop tg it body orelse env)
        | .brk => pure (.done .next)
        | .ret u => pure (.done (.ret u)) : Sem PySem.Fin).wrap .pure (fun e => ((do noteFrame e env; theTreesLotGoes e : Sem Unit).bind fun _ => (.raise e : Sem PySem.Fin))) id id) = (match f with
        | .next => .pure (.again (.forLoop tg it body orelse env))
        | .cont => .pure (.again (.forLoop tg it body orelse env))
        | .brk => .pure (.done .next)
        | .ret u => .pure (.done (.ret u))) := fun f => by cases f <;> rfl
    have e := Sem.wrap_congr (execs body env) (K := fun f => ((match f with
        | .next => again (.forLoop tg it body orelse env)
        | .cont => again (.forLoop tg it body orelse env)
        | .brk => pure (.done .next)
        | .ret u => pure (.done (.ret u)) : Sem PySem.Fin).wrap .pure (fun e => ((do noteFrame e env; theTreesLotGoes e : Sem Unit).bind fun _ => (.raise e : Sem PySem.Fin))) id id)) (H := fun e => ((do noteFrame e env; theTreesLotGoes e : Sem Unit).bind fun _ => (.raise e : Sem PySem.Fin))) id id hK hJ
    first
      | (rw [← e] at h3; exact h3)
      | (refine cast (congrArg (fun t => Seg (model prog w) A R Y n s₀ (.forLoop tg it body orelse env) t fs s3) ?_) h3
         refine Sem.wrap_congr _ _ _ (fun f => by cases f <;> rfl) fun e => (hJ e).symm)
/-- the empty rest behind a loop -/
theorem seg_blockNil (h : Seg (model prog w) A R Y n s₀ (.block [] env) (.pure (.done .next)) fs s) : Seg (model prog w) A R Y n s₀ (.block [] env) ((model prog w).den (.block [] env)) fs s := h
end
section
variable {X : Cx} {C : Con} {N : Nat} {Yd : List V → V → Hp → Prop}
theorem jc_loop {ip : List (Addr × Obj)} {A : Around} {c c' : Code} {fs : List Frame} {gd : Bool → Bool} {k : Result → Sem PySem.Fin} {l kp : List Value} {p : Pos} (g : JC X C ip A c fs gd) (hw : c'.weight = 0) (hu : c'.cUnits = 0) :
    JC X C ip A c' (.ret k none (gd false) l c p kp :: fs) id := by
  refine ⟨g.off, (over_loop hw hu).trans g.over, ?_, ?_, rfl⟩
  · show (splitAtGen fs).map _ = none
    rw [g.split]
    rfl
  · show (gd false || fs.any Frame.guarded) = false
    rw [g.gd, g.guard]
    rfl
theorem seg_outOf {ip : List (Addr × Obj)} {A : Around} {R : GenEnd} {c : Code} {fs : List Frame} {K : Flow → Sem PySem.Fin} {J : Value → Sem PySem.Fin} {gd : Bool → Bool} {lv : List Value → List Value} {D : JEnds} {n : Nat} {s₀ s : Shared} {e : Value}
    (g : JC X C ip A c fs gd) (k : JK X C N Yd ip A R c fs K J D) (h : cameBackBy (model X.prog X.w) X.A X.env X.xe e s) :
    Seg (model X.prog X.w) A R (YJ X C N Yd) n s₀ c (((Sem.raise e : Sem Flow).onRaise (cameBack X.env)).wrap K J gd lv) fs s := by
  show Seg _ _ _ _ _ _ _ (((cameBack X.env e).bind fun _ => (Sem.raise e : Sem Flow)).wrap K J gd lv) _ _
  rw [Sem.bind_eq_wrap, Sem.wrap_wrap]
  refine seg_wrap ?_
  rw [g.over]
  exact wpAny_mono h (fun _ s' z => k.exc n s₀ e s' z) fun x s' z => k.exc n s₀ x s' z
/-- the reading: W by the turn, a measure, what is out -/
def tjFor (wi : TI) (g : TG) (tb : TJ) : TJ := fun D ys σ H => wi σ H fun J H1 => ∃ W : Nat → Nat → List V → L2.St → Hp → Prop, (∃ m, W 0 m ys σ H1) ∧ ∀ i m ys σ H, W i m ys σ H →
  (J.stop i H ∧ D.nx ys σ H) ∨ (J.go i H ∧ ∃ Nx : List V → L2.St → Hp → Prop, (∀ ys' σ' H', Nx ys' σ' H' → ∃ m', m' < m ∧ W (i + 1) m' ys' σ' H') ∧ ∀ x H', J.yld i H x H' → g x σ H' fun σ2 H2 => tb { D with nx := Nx, ct := Nx, bk := D.nx } ys σ2 H2)
theorem js_for {tg iter : Expr} {body : List Stmt} {wi : TI} {g : TG} {tb : TJ} {pos : Pos} (hp : PassesOwn (model X.prog X.w) X.A X.env X.xe) (hc : X.calm = true) (hi : PI X tg iter wi) (hg : PG X tg g) (hb : JSs X C N Yd body tb)
    (hs : ∀ x, foldedSetIterable iter X.env x = pure x := by intro _; rfl) : JS X C N Yd (.For tg iter body [] pos) (tjFor wi g tb) := fun A ip R n ys s₀ c fs K J gd lv s σ H D gc hn k hI ht => by
  obtain ⟨hp0, ci0, I0⟩ := hI
  refine seg_For hs ?_
  rw [gc.over]
  have exc0 : ∀ x s', X.xe x s' → Seg (model X.prog X.w) A R (YJ X C N Yd) n s₀ c (J x) fs s' := fun x s' q => k.exc n s₀ x s' q
  refine wpAny_mono (hi.run _ s σ H _ I0 ht) (fun v s1 h1 => wpAny_mono h1 (fun itv s2 h2 => ?_) exc0) exc0
  obtain ⟨it, fp, tn, J0, H2, e, I2, T, st2, f2, W, ⟨m0, w0⟩, turn⟩ := h2
  subst e
  intro p
  have gl := fun (c' : Code) (kk : Result → Sem PySem.Fin) (hw : c'.weight = 0) (hu : c'.cUnits = 0) => jc_loop (c' := c') (k := kk) (l := lv []) (kp := []) (p := p) gc hw hu
  -- the iterator's objects, apart from all
  have nfpC : ∀ b ∈ fp, b ∉ C.cs := fun b hb hm => by
    obtain ⟨o, e, _⟩ := C.has ci0 b hm
    exact (f2 b hb).2.2.2.2.2 (b, o) (List.mem_append_right _ (List.mem_append_left _ (mem_pinsAt hm e))) rfl
  have fpOk : ∀ {hp : Heap} {H' : Hp}, C.CI [] hp ∨ (∃ ys, C.CI ys hp) → (∀ b ∈ fp, H' b = none) → ∀ b ∈ fp, FpOk X (pinsAt C.cs hp ++ ip) H' b := fun {hp H'} _ hn b hb => by
    obtain ⟨_, q1, q2, q3, q4, q5⟩ := f2 b hb
    refine ⟨hn b hb, q1, q2, q3, q4, fun z hz e => ?_⟩
    rcases List.mem_append.mp hz with hz | hz
    · exact q5 z (List.mem_append_left _ hz) e
    · rcases List.mem_append.mp hz with hz | hz
      · exact nfpC b hb (by rw [← e]; exact (of_pinsAt hz).1)
      · exact q5 z (List.mem_append_right _ (List.mem_append_right _ hz)) e
  have ee : ∀ (n : Nat) (s₀ : Shared) (x : Value) (s' : Shared), X.xe x s' → Seg (model X.prog X.w) A R (YJ X C N Yd) n s₀ (.forLoop tg (.ref it) body [] X.env) (loopJ X.env x) (.ret (backK X.env K J gd lv) none (gd false) (lv []) c p [] :: fs) s' := fun n s₀ x s' hx => by
    refine seg_wrap ?_
    rw [(gl _ _ rfl rfl).over]
    refine wpAny_bind (wpAny_mono (hp x s' hx) (fun _ s3 z => wpAny_theTreesLotGoes ?_) fun y s3 z => ?_)
    · exact seg_leaf (.error x) (seg_outOf gc k z)
    · exact seg_leaf (.error y) (seg_outOf gc k z)
  have loop : ∀ (m i n : Nat) (ys : List V) (s₀ s : Shared) (σ : L2.St) (H : Hp), n + ys.length = N → W i m ys σ H → GJ X C ip ys σ H s → tn i s.heap → (∀ b ∈ fp, H b = none) →
      Seg (model X.prog X.w) A R (YJ X C N Yd) n s₀ (.forLoop tg (.ref it) body [] X.env) ((model X.prog X.w).den (.forLoop tg (.ref it) body [] X.env)) (.ret (backK X.env K J gd lv) none (gd false) (lv []) c p [] :: fs) s := by
    intro m
    induction m using Nat.strongRecOn with
    | ind m ih =>
      intro i n ys s₀ s σ H hn w hI hst hfr
      refine seg_forTurn ?_
      rw [(gl _ _ rfl rfl).over]
      obtain ⟨hp1, ci1, I1⟩ := hI
      rcases turn i m ys σ H w with ⟨stop, qn⟩ | ⟨go, Nx, hNx, step⟩
      · refine wpAny_mono (T.done X rfl rfl rfl hc i _ s σ H X.xe I1 (fpOk (.inr ⟨_, ci1⟩) hfr) hst stop) (fun r s1 ⟨hr, I2⟩ => ?_) (fun x s' q => ee n s₀ x s' q)
        subst hr
        refine seg_blockNil ?_
        exact seg_leaf (.ok .next) (k.ok n ys s₀ s1 .next hn ⟨σ, H, ⟨hp1, ci1, I2⟩, qn⟩)
      · refine wpAny_mono (T.item X rfl rfl rfl hc i _ s σ H X.xe I1 (fpOk (.inr ⟨_, ci1⟩) hfr) hst go) (fun r s1 ⟨u, hr, h2⟩ => ?_) (fun x s' q => ee n s₀ x s' q)
        subst hr
        refine wpAny_mono h2 (fun _ s2 ⟨x, H3, I3, rx, yx, st3, fr3⟩ => ?_) (fun x s' q => ee n s₀ x s' q)
        refine wpAny_mono (hg.run _ s2 σ H3 x u _ (I3.pinned (fpOk (.inr ⟨_, ci1⟩) fr3) (T.obj _ _ st3)) rx (step x H3 yx)) (fun _ s3 ⟨σ4, H4, I4, q4⟩ => ?_) (fun x s' q => ee n s₀ x s' q)
        -- the body, its iterators: ours beside the loop's
        have G4 : GJ X C (ip ++ pinsAt fp s2.heap) ys σ4 H4 s3 := ⟨hp1, ci1, by rw [← List.append_assoc]; exact I4⟩
        have g4 : JC X C (ip ++ pinsAt fp s2.heap) A (.forLoop tg (.ref it) body [] X.env) (.ret (backK X.env K J gd lv) none (gd false) (lv []) c p [] :: fs) id := by
          have z := gl (.forLoop tg (.ref it) body [] X.env) (backK X.env K J gd lv) rfl rfl
          refine ⟨⟨z.off.pn, fun q hq => ?_, z.off.young⟩, z.over, z.split, z.guard, z.gd⟩
          rcases List.mem_append.mp hq with hq | hq
          · exact z.off.ip q hq
          · exact nfpC _ (of_pinsAt hq).1
        have back : ∀ {ys' : List V} {σ' : L2.St} {H' : Hp} {s' : Shared}, GJ X C (ip ++ pinsAt fp s2.heap) ys' σ' H' s' → GJ X C ip ys' σ' H' s' ∧ tn (i + 1) s'.heap ∧ ∀ b ∈ fp, H' b = none := fun {ys' σ' H' s'} g' => by
          have J' := g'.bareInv
          have at_ : ∀ b ∈ fp, ∀ o, s2.heap.get? b = some o → s'.heap.get? b = some o ∧ H' b = none := fun b hb o e =>
            let z := J'.pin (b, o) (List.mem_append_right _ (List.mem_append_right _ (mem_pinsAt hb e)))
            ⟨z.1, z.2.1⟩
          refine ⟨g'.withIp J'.unpinned, T.keep _ _ _ st3 fun b hb o e => (at_ b hb o e).1, fun b hb => ?_⟩
          obtain ⟨o, e, _⟩ := T.obj _ _ st3 b hb
          exact (at_ b hb o e).2
        refine hb A (ip ++ pinsAt fp s2.heap) R n ys s₀ _ _ _ _ id id s3 σ4 H4 _ g4 hn ⟨fun n' ys' s₀' s' f hn' q => ?_, fun n' s₀' x s' q => ee n' s₀' x s' q⟩ G4 q4
        cases f with
        | next =>
          obtain ⟨σ', H', g', q'⟩ := q
          obtain ⟨z1, z2, z3⟩ := back g'
          obtain ⟨m', hm, w'⟩ := hNx ys' σ' H' q'
          exact seg_again rfl (ih m' hm (i + 1) n' ys' s₀' s' σ' H' hn' w' z1 z2 z3)
        | cont =>
          obtain ⟨σ', H', g', q'⟩ := q
          obtain ⟨z1, z2, z3⟩ := back g'
          obtain ⟨m', hm, w'⟩ := hNx ys' σ' H' q'
          exact seg_again rfl (ih m' hm (i + 1) n' ys' s₀' s' σ' H' hn' w' z1 z2 z3)
        | brk =>
          obtain ⟨σ', H', g', q'⟩ := q
          exact seg_leaf (.ok .next) (k.ok n' ys' s₀' s' .next hn' ⟨σ', H', (back g').1, q'⟩)
        | ret u =>
          obtain ⟨v, σ', H', g', rv, q'⟩ := q
          exact seg_leaf (.ok (.ret u)) (k.ok n' ys' s₀' s' (.ret u) hn' ⟨v, σ', H', (back g').1, rv, q'⟩)
  exact loop m0 0 n ys s₀ s2 σ H2 hn w0 ⟨hp0, ci0, I2⟩ st2 fun b hb => (f2 b hb).1
end
end Kd
/-! K4: a generator def's promise for a drawer of any kind; list(g) by it; calls by keywords -/
namespace Kd
open PySem PySem.Spec PyProof.Rows L2 GenW
/-- its run's end -/
def RG (P : Program) (w : World) (outer : List Env) (H : Hp) (s : Shared) (C : Con) (a : Addr) (g : Nat) (Q : List V → Hp → Prop) (E : XK) : GenEnd := fun n s₀ r s1 =>
  ((r = .ok (.ret .none) ∨ r = .ok .next) ∧ ∃ H' ys, s1.os = s.os ∧ AllBare s1.gens ∧ Un (frs outer) [] H H' s.heap s1.heap ∧ HOk P w H' s1.heap ∧ (∀ b ∈ C.cs, H' b = none) ∧ C.CI ys s1.heap ∧ ys.length ≤ sizeLine ∧ Q ys H') ∨
  ∃ e, r = .error e ∧ L2.CX P w outer H s E e s1 ∧ s1.heap.IsGen a g
/-- an item is out -/
def YG (P : Program) (w : World) (outer : List Env) (H : Hp) (s : Shared) (C : Con) (a : Addr) (g : Nat) (Yd : List V → V → Hp → Prop) : Protocol := fun n s₀ v s1 kap =>
  ∃ ys x H', n + 1 + ys.length = sizeLine ∧ RelV x v ∧ s1.os = s.os ∧ AllBare s1.gens ∧ s1.heap.NoLimit ∧ s1.heap.IsGen a g ∧ Un (frs outer) [] H H' s.heap s1.heap ∧ HOk P w H' s1.heap ∧ (∀ b ∈ C.cs, H' b = none) ∧ C.CI ys s1.heap ∧ Yd ys x H' ∧
    ∀ s', Slp C (ys ++ [x]) s1 s' → kap (.send .none) s'
/-- what a call gives: a generator that has not begun, for any drawer -/
def Made (P : Program) (w : World) (k : Nat) (outer : List Env) (H : Hp) (s : Shared) (Yd : List V → V → Hp → Prop) (Q : List V → Hp → Prop) (E : XK) (u : Value) (s' : Shared) : Prop :=
  ∃ (a : Addr) (g : Nat) (c : Code), u = .ref a ∧ s.heap.objs.size ≤ a ∧ a < s'.heap.objs.size ∧ s'.heap.IsGen a g ∧ s'.gens[g]? = some (.fresh c) ∧ s'.os = s.os ∧ AllBare s'.gens ∧ s'.heap.NoLimit ∧ (∀ b o, s.heap.get? b = some o → s'.heap.get? b = some o) ∧
    ∀ (A : Around) (C : Con) (s2 : Shared), Room k A → A.frames = some outer → (∀ b ∈ C.cs, s'.heap.objs.size ≤ b) → (∀ b o, s'.heap.get? b = some o → s2.heap.get? b = some o) → C.CI [] s2.heap → s2.os = s.os → AllBare s2.gens →
      Seg (model P w) A (RG P w outer H s C a g Q E) (YG P w outer H s C a g Yd) sizeLine s2 c ((model P w).den c) [] s2
abbrev SpJ := List V → Hp → (List V → V → Hp → Prop) → (List V → Hp → Prop) → XK → Prop
structure JFn (P : Program) (w : World) (K : PySem.W.Frag) (mg : Str → Option Value) (base : Heap) (k : Nat) (f : Addr) (fd : FuncData) (ps : List Str) (sp : SpJ) : Prop where
  len : ∀ vs H Yd Q E, sp vs H Yd Q E → vs.length = ps.length
  run : ∀ (A : Around) (outer : List Env) (s : Shared) (H : Hp) (args : Args) (us : List Value) (vs : List V) (Yd : List V → V → Hp → Prop) (Q : List V → Hp → Prop) (E : XK), Room k A → Env0 P w K mg base A outer s H → BindsTo s fd args (ps.zip us) → Vals vs us → sp vs H Yd Q E →
    codeAny (model P w) A (.call (.ref f) args) (fun r s' => match r with | .ok (.ret u) => Made P w k outer H s Yd Q E u s' | _ => False) s
/-- the rule: by its body -/
theorem jfn_of {P : Program} {w : World} {K : PySem.W.Frag} {mg : Str → Option Value} {base : Heap} {k : Nat} {f : Addr} {name qual : Str} {params : Arguments} {body : List Stmt} {scope : Scope} {dV kV doc pm cdv ct oc : Value} {an od : Option Addr}
    {osl : Array (Option Value)} {N ps : List Str} {sp : SpJ} (lk : K.lookup f = some ⟨oc, od, .func (PySem.W.fnOf name qual params body scope dV kV doc pm an cdv ct), osl⟩) (hcd : PySem.W.codeIn K cdv qual = true) (S : GScope N ps scope)
    (len : ∀ vs H Yd Q E, sp vs H Yd Q E → vs.length = ps.length)
    (hbody : ∀ (A : Around) (outer : List Env) (s : Shared) (H : Hp) (vs : List V) (Yd : List V → V → Hp → Prop) (Q : List V → Hp → Prop) (E : XK) (pn : List (Addr × Obj)) (C : Con), Room k (A.deeper (envOfC qual scope s.heap.objs.size f cdv)) → sp vs H Yd Q E →
      ∃ t, JSs (gcxOf P w K mg base N qual scope f cdv A outer s H E pn) C sizeLine Yd body t ∧ t { nx := fun ys _ H' => Q ys H' } [] (start N vs) H) :
    JFn P w K mg base (k + 1) f (PySem.W.fnOf name qual params body scope dV kV doc pm an cdv ct) ps sp := by
  refine ⟨len, fun A outer s H args us vs Yd Q E hr e0 hb r hsp => ?_⟩
  have hl := len _ _ _ _ _ hsp
  have kept0 : ∀ b o, base.get? b = some o → s.heap.get? b = some o := fun b o e => (e0.bs b o e).1
  have lim : s.heap.NoLimit := e0.mod.nolimit.keeps kept0
  have hkind : ∀ y ∈ ps.zip us, scope.names.lookup y.1 = some .local ∨ (scope.names.lookup y.1 = some .cell ∧ ((cellsFrom (s.heap.objs.size + 1) scope.names []).lookup y.1).isSome = true) := by
    intro y hy
    rcases S.par y.1 (List.of_mem_zip (show (y.1, y.2) ∈ ps.zip us from hy)).1 with q | q
    · exact .inl q
    · exact .inr ⟨q, PySem.W.cellsFrom_some _ _ _ (.inl q)⟩
  refine codeAny_call_generator hr.depth ((e0.mod.kin.keeps kept0) _ _ lk) rfl S.co S.gen rfl (PySem.W.codeRec_of (e0.mod.kin.keeps kept0) hcd) (hb _ _ _ _ (wpAny_newFunctionEnv_cells S.kind hkind fun env he s1 x => ?_))
  subst he
  refine ⟨lim.keeps x.toInCall.keep, ?_⟩
  obtain ⟨h1, tk, es1, hk1⟩ := x.done
  have os1 : s1.os = s.os := by rw [es1]
  have gen1 : s1.gens = s.gens := by rw [es1]
  have lt1 : s.heap.objs.size < s1.heap.objs.size := x.toInCall.ns.lt
  have sz1 := Nat.le_of_lt lt1
  have kp1 : ∀ b o, s.heap.get? b = some o → s1.heap.get? b = some o := x.toInCall.keep
  have main : ∀ (go : Obj) (nm qn : Value) (tk2 : Nat), go.cls = .type "generator" → go.data = .fields #[.int s1.gens.size 0, nm, qn] → go.slots = #[] → (∀ h : Heap, (h.push go).get? h.objs.size = some go) →
      Made P w (k + 1) outer H s Yd Q E (.ref s1.heap.objs.size) { s1 with gens := s1.gens.push (.fresh (.func body (envOfC qual scope s.heap.objs.size f cdv))), toks := tk2, heap := s1.heap.push go } := by
    intro go nm qn tk2 hgc hgd0 hgs hgp
    have isGen : ∀ h : Heap, h.get? s1.heap.objs.size = some go → h.IsGen s1.heap.objs.size s1.gens.size := fun h e => ⟨go, nm, qn, e, hgc, hgd0, hgs⟩
    refine ⟨s1.heap.objs.size, s1.gens.size, _, rfl, sz1, ?_, isGen _ (hgp _), Array.getElem?_push_size .., os1, ?_, (lim.keeps kp1).keeps fun b o e => Heap.get?_push_of_some _ e, fun b o e => Heap.get?_push_of_some _ (kp1 b o e), ?_⟩
    · simp only [Heap.size_push]
      exact Nat.lt_succ_self _
    · exact AllBare.push (by rw [gen1]; exact e0.bare) rfl
    intro Aw C s2 hrw hfr hSx hk2 hci hos hba
    obtain ⟨t, ht, hq⟩ := hbody Aw outer s H vs Yd Q E [(s1.heap.objs.size, go)] C (hrw.deeper _) hsp
    have I1 := inv_startG (E := E) (A := Aw) (K := K) (f := f) (cd := cdv) (qual := qual) S hrw.hd (⟨hfr, e0.mod, e0.bs, e0.bsz, e0.funs, e0.frf, e0.hok, e0.bare⟩ : Env0 P w K mg base Aw outer s H) hl r x
    have kp2 : ∀ b o, s1.heap.get? b = some o → s2.heap.get? b = some o := fun b o e => hk2 b o (Heap.get?_push_of_some _ e)
    have I2 := I1.call' (ch := []) (hos.trans os1.symm) (Un.kept kp2) (I1.hok.kept kp2) hba fun b z => absurd z (by simp)
    have big : ∀ b ∈ C.cs, s1.heap.objs.size < b := fun b hb => by
      have q := hSx b hb
      simp only [Heap.size_push] at q
      exact q
    have young : ∀ b, s1.heap.objs.size ≤ b → H b = none ∧ b ≠ s.heap.objs.size ∧ b ∉ frs outer ∧ s.heap.objs.size ≤ b ∧ ∀ y c, (cellsFrom (s.heap.objs.size + 1) scope.names []).lookup y = some c → c ≠ b := fun b hb => by
      refine ⟨I1.hok.fresh hb, Nat.ne_of_gt (Nat.lt_of_lt_of_le lt1 hb), I1.nofs hb, Nat.le_trans sz1 hb, fun y c e z => ?_⟩
      obtain ⟨v, ob, ho, _⟩ := I1.cell y c e
      have q := Heap.lt_size ho
      rw [z] at q
      exact absurd (Nat.lt_of_lt_of_le q hb) (Nat.lt_irrefl _)
    have hgo : ∀ v, go.data ≠ .cell v := fun v q => by
      rw [hgd0] at q
      cases q
    have J2 : Inv (gcxOf P w K mg base N qual scope f cdv Aw outer s H E [(s1.heap.objs.size, go)]) [] (start N vs) H s2 := I2.pinnedG fun p hp => by
      have e : p = (s1.heap.objs.size, go) := by simpa using hp
      subst e
      obtain ⟨y1, y2, y3, _, _⟩ := young s1.heap.objs.size (Nat.le_refl _)
      exact ⟨hk2 _ go (hgp _), y1, y2, y3, hgo⟩
    have hG : GJ (gcxOf P w K mg base N qual scope f cdv Aw outer s H E [(s1.heap.objs.size, go)]) C [] [] (start N vs) H s2 := GJ.mk hci J2 fun b hb => by
      obtain ⟨y1, y2, y3, _, _⟩ := young b (Nat.le_of_lt (big b hb))
      exact ⟨y1, y2, y3⟩
    have hO : Off (gcxOf P w K mg base N qual scope f cdv Aw outer s H E [(s1.heap.objs.size, go)]) C [] := by
      refine ⟨fun p hp hm => ?_, fun p hp => absurd hp (by simp), fun b hb => ?_⟩
      · have e : p = (s1.heap.objs.size, go) := by simpa using (show p ∈ [(s1.heap.objs.size, go)] from hp)
        subst e
        exact absurd (big _ hm) (Nat.lt_irrefl _)
      · obtain ⟨_, y2, _, y4, y5⟩ := young b (Nat.le_of_lt (big b hb))
        exact ⟨y4, y2, y5⟩
    have stands : ∀ {ip : List (Addr × Obj)} {ys : List V} {s' : Shared} {σ' : L2.St} {H' : Hp}, GJ (gcxOf P w K mg base N qual scope f cdv Aw outer s H E [(s1.heap.objs.size, go)]) C ip ys σ' H' s' → s'.heap.IsGen s1.heap.objs.size s1.gens.size := fun hI =>
      isGen _ (hI.bareInv.pin (s1.heap.objs.size, go) (List.mem_append_left _ (List.mem_singleton.mpr rfl))).1
    refine seg_func (seg_imp (R := RJ (gcxOf P w K mg base N qual scope f cdv Aw outer s H E [(s1.heap.objs.size, go)]) C sizeLine Q fun e s' => L2.CX P w outer H s E e s' ∧ ∀ p ∈ [(s1.heap.objs.size, go)], s'.heap.get? p.1 = some p.2)
      (Y := YJ (gcxOf P w K mg base N qual scope f cdv Aw outer s H E [(s1.heap.objs.size, go)]) C sizeLine Yd) (fun n s₀ r s1' hR => ?_) (fun n s₀ v s1' kap kap' hkk hY => ?_) sizeLine ?_)
    · cases r with
      | error e => exact .inr ⟨e, rfl, hR.1, isGen _ (hR.2 (s1.heap.objs.size, go) (List.mem_singleton.mpr rfl))⟩
      | ok fl =>
        cases fl with
        | next => exact False.elim hR
        | brk => exact False.elim hR
        | cont => exact False.elim hR
        | ret u =>
          obtain ⟨rfl, ys, ip, σ', H', hn, hI, hQ⟩ := hR
          have J := hI.bareInv
          exact .inl ⟨.inl rfl, H', ys, J.os, J.bare, J.base, J.hok, fun b hb => (hI.pin b hb).1, hI.ci, by omega, hQ⟩
    · obtain ⟨ys, xx, ip, σ', H', hn, h2, hI, hy, h3⟩ := hY
      have J := hI.bareInv
      exact ⟨ys, xx, H', hn, h2, J.os, J.bare, J.nolimit, stands hI, J.base, J.hok, fun b hb => (hI.pin b hb).1, hI.ci, hy, fun s' z => hkk _ _ (h3 s' z)⟩
    · refine ht Aw [] _ sizeLine [] s2 _ [] _ _ id id s2 (start N vs) H _ ⟨hO, over_func, rfl, rfl, rfl⟩ (Nat.add_zero _) ⟨fun n ys s₀ s' fl hn hs => ?_, fun n s₀ e s' hx => ?_⟩ hG hq
      · cases fl with
        | next =>
          obtain ⟨σ', H', hI, hQ⟩ := hs
          exact seg_end (.ok (.ret .none)) ⟨rfl, ys, [], σ', H', hn, hI, hQ⟩
        | brk => obtain ⟨_, _, _, q⟩ := hs; exact False.elim q
        | cont => obtain ⟨_, _, _, q⟩ := hs; exact False.elim q
        | ret u => obtain ⟨_, _, _, _, _, q⟩ := hs; exact False.elim q
      · refine seg_wrap ?_
        rw [over_func]
        have hx' : wpAny (model P w) (Aw.deeper (envOfC qual scope s.heap.objs.size f cdv)) (leaving (envOfC qual scope s.heap.objs.size f cdv) e) (fun _ s'' => L2.CX P w outer H s E e s'' ∧ ∀ p ∈ [(s1.heap.objs.size, go)], s''.heap.get? p.1 = some p.2) (fun _ _ => False) s' := hx
        exact wpAny_mono hx' (fun _ s'' q => seg_end (.error e) q) fun _ s'' q => q.elim
  exact main _ _ _ _ rfl rfl rfl fun h => Heap.get?_push_size _ rfl

/-! ### the drawer list(g) -/
def ConL (S : Addr) : Con where
  cs := [S]
  CI := fun ys h => ∃ (acc : Array Value) (c : Nat), Vals ys acc.toList ∧ h.get? S = some (lstObj acc c)
  stay := fun {ys h h'} k ⟨acc, c, r, e⟩ => ⟨acc, c, r, k S (by simp) _ e⟩
  has := fun {ys h} ⟨acc, c, r, e⟩ b hb => by
    have q : b = S := by simpa using hb
    subst q
    exact ⟨_, e, fun v z => by cases z⟩
theorem Made.list {P : Program} {w : World} {k : Nat} {outer : List Env} {H : Hp} {s : Shared} {Yd : List V → V → Hp → Prop} {Q : List V → Hp → Prop} {E : XK} {u : Value} {s' : Shared} (m : Made P w k outer H s Yd Q E u s') : GMade P w k outer H s [] Q E u s' := by
  obtain ⟨a, g, c, e, h1, h2, h3, h4, h5, h6, h7, h8, wake⟩ := m
  refine ⟨a, g, c, e, h1, h2, h3, h4, h5, h6, h7, h8, fun A S s2 hr hf hS hk ⟨cc, hs⟩ ho hb => ?_⟩
  have inS : ∀ b, b ∈ (ConL S).cs → b = S := fun b hm => by simpa [ConL] using hm
  refine seg_imp (fun n s₀ r s1 q => ?_) (fun n s₀ v s1 kap kap' hkk q => ?_) sizeLine (wake A (ConL S) s2 hr hf (fun b hm => Nat.le_trans hS (Nat.le_of_eq (inS b hm).symm)) hk ⟨#[], cc, .nil, hs⟩ ho hb)
  · rcases q with ⟨q1, H', ys, q2, q3, q4, q5, q6, ⟨acc, c', r', e'⟩, q8, q9⟩ | q
    · exact .inl ⟨q1, H', ys, acc, c', q2, q3, q4, q5, q6 S (by simp [ConL]), e', r', q8, q9⟩
    · exact .inr q
  · obtain ⟨ys, x, H', hn, rv, q1, q2, q3, q4, q5, q6, q7, ⟨acc, c', r', e'⟩, q9, q10⟩ := q
    have hl : acc.size = ys.length := by
      have z := r'.length
      simp only [Array.length_toList] at z
      exact z.symm
    refine ⟨q1, q2, q3, q4, ⟨acc, c', e', by omega⟩, fun s3 z => hkk _ _ (q10 s3 ⟨z.os, z.bare, fun b o hb e => z.keep b o (fun q => hb (by rw [q]; simp [ConL])) e, ?_⟩)⟩
    obtain ⟨c2, e2⟩ := z.own acc c' e'
    exact ⟨acc.push v, c2, by simpa using r'.append (.cons rv .nil), e2⟩
section
variable {X : Cx} {k : Nat} {f : Addr} {fd : FuncData} {ps ks : List Str} {sp : SpJ} {x : Str} {p pos : Pos} {kws : List Keyword} {tk : TA} {g : List Value → List Value → List Value} {gV : List V → List V → List V}
/-- an expression whose value is a generator that has not begun -/
abbrev TMd := L2.St → Hp → (List V → V → Hp → Prop) → (List V → Hp → Prop) → Prop
structure PMd (X : Cx) (k : Nat) (e : Expr) (t : TMd) (E : XK) : Prop where
  run : ∀ (pins : List (Addr × Obj)) (s : Shared) (σ : L2.St) (H : Hp) (Yd : List V → V → Hp → Prop) (Q : List V → Hp → Prop) (E1 : Value → Shared → Prop), Inv X pins σ H s → t σ H Yd Q → wpAny (model X.prog X.w) X.A (eval e X.env)
    (fun u s' => ∃ H1 sc, Inv X pins σ H1 sc ∧ Made X.prog X.w k X.stack H1 sc Yd Q E u s') X.xe s
def tMdK (m : Nat) (sp : SpJ) (gV : List V → List V → List V) (E : XK) (tk : TA) : TMd := fun σ H Yd Q => tk σ H fun zs H2 => zs.length = m ∧ sp (gV [] zs) H2 Yd Q E
/-- f(k = v, ..) of a generator def -/
theorem pmd_callK {E : XK} (F : JFn X.prog X.w X.K X.mg X.base k f fd ps sp) (hr : Room k X.A) (hg : Gl X x) (hm : X.mg x = some (.ref f)) (hk : PySem.W.keepIn X.K (.ref f) = true) (hb : KBn X.K fd ps 0 ks g gV)
    (hkw : PK X kws tk) (hall : (backToKw pos (keywordEach kws X.env)).all (·.1.isSome) = true := by rfl) (hks : (backToKw pos (keywordEach kws X.env)).filterMap (·.1) = ks := by rfl)
    (hdb : (x == ("__debug__" : Str)) = false := by decide) (hpl : ((backTo pos (starEach [] X.env)).any (·.1) || (backToKw pos (keywordEach kws X.env)).any (·.1.isNone)) = false := by rfl) :
    PMd X k (.Call (.Name x p) [] kws pos) (tMdK ks.length sp gV E tk) E := by
  refine ⟨fun pins s σ H Yd Q E1 I h => ?_⟩
  refine wpAny_Call_Name_kw (ld_glob I hg hm ?_ hdb)
  refine PySem.W.callWith_KW0 (h₀ := X.base) I.ok.mod.kin hk hall (thn (hkw.run pos pins s σ H _ I h) fun ws s2 ⟨zs, H2, I2, rz, l2, q⟩ => ⟨I2.kIn, ?_⟩) hpl
  rw [hks]
  have r2 : Vals (gV [] zs) (g [] ws) := hb.rel .nil rz
  show wpAny _ _ (call (.ref f) [] (ks.zip ws)) _ _ _
  refine wpAny_call (codeAny_mono (F.run X.A X.stack s2 H2 ⟨[], ks.zip ws⟩ (g [] ws) (gV [] zs) Yd Q E hr I2.env0 (hb.to s2 [] ws I2.kIn rfl (rz.length.symm.trans l2)) r2 q) fun r s' hq => ?_)
  cases r with
  | error e => exact False.elim hq
  | ok fl =>
    cases fl with
    | ret u => exact ⟨H2, s2, I2, hq⟩
    | next => exact False.elim hq
    | brk => exact False.elim hq
    | cont => exact False.elim hq
/-- .. for list(..) -/
theorem PMd.gen {e : Expr} {t : TMd} {E : XK} (h : PMd X k e t E) : PGen X k e (fun σ H Q => ∃ Yd, t σ H Yd Q) E := ⟨fun pins s σ H cont I ⟨Yd, q⟩ => thn (h.run pins s σ H Yd cont (fun _ _ => False) I q) fun u s' ⟨H1, sc, I1, m⟩ => ⟨H1, sc, [], I1, ExOk.nil, m.list⟩⟩
end
end Kd
/-! K5: a comprehension of three clauses over tuples of the module -/
namespace Kd
open PySem PySem.Spec PyProof.Rows L2
section
variable {B : Cx} {elt : Expr} {gens : List Comprehension} {scope : Scope} {cpos : Pos} {d : Nat} {acc : Value} {tb : Sem PySem.Fin} {y : Str} {py ip : Pos} {j : Nat} {it a : Addr} {xs : List V} {σ : L2.St} {pins : List (Addr × Obj)} {H : Hp} {s : Shared}
/-- one level of the loop: over a tuple, its turn's rest by the caller -/
theorem lvl (hc : B.calm = true) (hxe : ∀ e s, ¬ B.xe e s)
    (hturn : compTurn (.ListComp elt gens scope cpos) d (.ref it) acc B.env = (do
      standAt ip
      match ← pyNext (.ref it) with
      | none => pure (.done .next)
      | some v =>
        letOwnedTupleGo (.Name y py) (.ref it) v
        assign (.Name y py) B.env v
        tb))
    (pg : PG B (.Name y py) (gName j)) (sq : ∀ H, SqT B.K H a xs) (Pv : Nat → Hp → Prop) (Rr : Result → Shared → Prop)
    (hact : ∀ i x H s pins', xs[i]? = some x → Pv i H → Inv B (pins ++ pins') (σ.set j (some x)) H s →
      wpAny (model B.prog B.w) B.A tb (fun fin s' => fin = .again (.compLoop (.ListComp elt gens scope cpos) d (.ref it) acc B.env) ∧ ∃ H', Inv B (pins ++ pins') (σ.set j none) H' s' ∧ Pv (i + 1) H') (fun _ _ => False) s)
    (hend : ∀ H s, Pv xs.length H → Inv B pins (σ.set j none) H s → Rr (.ok .next) s)
    (I : Inv B pins (σ.set j none) H s) (st : s.heap.IsTupleIter it a 0) (f : FpOk B pins H it) (p0 : Pv 0 H) : codeAny (model B.prog B.w) B.A (.compLoop (.ListComp elt gens scope cpos) d (.ref it) acc B.env) Rr s := by
  have T : Turn B.prog B.w B.K (.Name y py) (Itt B.K a) [it] it (fun i h => h.IsTupleIter it a i) := turn_tuple a it
  have only : ∀ b, b ∈ [it] → b = it := fun b hb => by simpa using hb
  have fOk : ∀ {H' : Hp}, H' it = none → ∀ b ∈ [it], FpOk B pins H' b := fun hn b hb => by
    rw [only b hb]
    exact ⟨hn, f.2⟩
  refine codeAny_loop rfl (fun n s => ∃ i H, n = xs.length - i ∧ i ≤ xs.length ∧ Inv B pins (σ.set j none) H s ∧ s.heap.IsTupleIter it a i ∧ H it = none ∧ Pv i H) (fun n s hI => ?_) xs.length ⟨0, H, rfl, Nat.zero_le _, I, st, f.1, p0⟩
  obtain ⟨i, H, rfl, hi, I, st, fn, p⟩ := hI
  show wpAny _ B.A ((compTurn (.ListComp elt gens scope cpos) d (.ref it) acc B.env).onRaise (fun x => do noteFrame x B.env; theTreesLotGoes x)) _ _ s
  refine wpAny_noted ?_
  rw [hturn]
  refine wpAny_bind (wpAny_standAt (wpAny_bind ?_))
  by_cases hlt : i < xs.length
  · refine wpAny_mono (T.item B rfl rfl rfl hc i pins s _ H (fun _ _ => False) I (fOk fn) st ⟨xs, xs[i], sq H, by simp [hlt]⟩) (fun r s1 ⟨u, hr, h1⟩ => ?_) fun _ _ z => z.elim
    subst hr
    refine wpAny_bind (wpAny_mono h1 (fun _ s2 ⟨x, H2, I2, rx, yx, st2, fn2⟩ => ?_) fun _ _ z => z.elim)
    obtain ⟨eH, hx⟩ := yx
    subst eH
    have hx' : xs[i]? = some x := hx xs (sq _)
    clear hx
    have I2' := I2.pinned (fOk (fn2 it (by simp))) (T.obj _ _ st2)
    refine wpAny_bind (wpAny_mono (pg.run _ s2 _ _ x u (fun σ' H' => σ' = (σ.set j none).set j (some x) ∧ H' = H2) I2' rx ⟨rfl, rfl⟩) (fun _ s3 ⟨σ3, H3, I3, e3, e4⟩ => ?_) fun e s z => (hxe e s z).elim)
    subst e3 e4
    rw [List.set_set] at I3
    refine wpAny_mono (hact i x _ s3 _ hx' p I3) (fun fin s4 ⟨ef, H4, I4, p4⟩ => ?_) fun _ _ z => z.elim
    subst ef
    have at_ : ∀ b ∈ [it], ∀ o, s2.heap.get? b = some o → s4.heap.get? b = some o ∧ H4 b = none := fun b hb o q =>
      let z := I4.pin (b, o) (List.mem_append_right _ (List.mem_append_right _ (mem_pinsAt hb q)))
      ⟨z.1, z.2.1⟩
    refine ⟨rfl, xs.length - (i + 1), by omega, i + 1, H4, rfl, hlt, I4.unpinned, T.keep _ _ _ st2 fun b hb o q => (at_ b hb o q).1, ?_, p4⟩
    obtain ⟨o, q, _⟩ := T.obj _ _ st2 it (by simp)
    exact (at_ it (by simp) o q).2
  · have e : i = xs.length := by omega
    subst e
    refine wpAny_mono (T.done B rfl rfl rfl hc _ pins s _ H (fun _ _ => False) I (fOk fn) st ⟨xs, sq H, Nat.le_refl _⟩) (fun r s1 ⟨hr, I1⟩ => ?_) fun _ _ z => z.elim
    subst hr
    exact wpAny_pure (hend H s1 p I1)
theorem start_ok {Rr : Result → Shared → Prop} (hna : ((clausesOf (.ListComp elt gens scope cpos))[d]?).elim false (·.is_async != 0) = false) {A : Around} {P : Program} {w : World} {env : Env} (st : s.heap.IsTupleIter it a 0)
    (h : codeAny (model P w) A (.compLoop (.ListComp elt gens scope cpos) d (.ref it) acc env) Rr s) : codeAny (model P w) A (.compStart (.ListComp elt gens scope cpos) d (.ref it) acc env) Rr s := by
  have T : Turn P w [] (.Name "x" cpos) (Itt [] a) [it] it (fun i h => h.IsTupleIter it a i) := turn_tuple a it
  refine codeAny_of_tree ?_
  show wpAny _ _ ((compStart (.ListComp elt gens scope cpos) d (.ref it) acc env).onRaise (fun x => do noteFrame x env; standAt theWindowsPlace)) _ _ s
  refine wpAny_notedAt ?_
  unfold compStart
  rw [hna]
  simp only [Bool.false_eq_true, if_false]
  show wpAny _ _ (ask >>= _) _ _ s
  refine wpAny_bind (wpAny_askSetting (wpAny_ite ?_))
  split
  · first
      | exact wpAny_bind (wpAny_pure (wpAny_pure ⟨rfl, h⟩))
      | exact wpAny_pure ⟨rfl, h⟩
  · refine wpAny_bind (wpAny_rule ?_)
    have fin : wpAny (model P w) A (pyIter (.ref it)) (fun u s' => wpAny (model P w) A (again (.compLoop (.ListComp elt gens scope cpos) d u acc env)) (fun fin s' => match fin with
        | .done f => Rr (.ok f) s'
        | .again c' => c'.quiet = true ∧ codeAny (model P w) A c' Rr s') (fun _ _ => False) s') (fun _ _ => False) s :=
      T.self A 0 s _ _ st (wpAny_pure ⟨rfl, h⟩)
    cases q : (clausesOf (.ListComp elt gens scope cpos))[d]? with
    | none =>
      first
        | exact wpAny_bind (wpAny_mono fin (fun u s' h' => wpAny_mono h' (fun _ _ z => z) fun _ _ z => z.elim) fun _ _ z => z.elim)
        | exact wpAny_bind (wpAny_pure (wpAny_bind (wpAny_mono fin (fun u s' h' => wpAny_mono h' (fun _ _ z => z) fun _ _ z => z.elim) fun _ _ z => z.elim)))
    | some g =>
      exact wpAny_bind (wpAny_standAt (wpAny_bind (wpAny_mono fin (fun u s' h' => wpAny_mono h' (fun _ _ z => z) fun _ _ z => z.elim) fun _ _ z => z.elim)))
/-- a further clause's start: its tuple, then its loop -/
theorem lvl_start {x : Str} {xp : Pos} (hpe : PE B (.Name x xp) (tC (.ref a))) (hxe : ∀ e s, ¬ B.xe e s) (sq : ∀ H, SqT B.K H a xs) (hs : ∀ v, foldedSetIterable (.Name x xp) B.env v = pure v) {Q : Shared → Prop}
    (hloop : ∀ (it : Addr) (s1 : Shared), Inv B pins σ H s1 → s1.heap.IsTupleIter it a 0 → FpOk B pins H it → codeAny (model B.prog B.w) B.A (.compStart (.ListComp elt gens scope cpos) d (.ref it) acc B.env) (fun r s' => r = .ok .next ∧ Q s') s1)
    (k : Sem PySem.Fin) {Qf : PySem.Fin → Shared → Prop} (hk : ∀ s', Q s' → wpAny (model B.prog B.w) B.A k Qf (fun _ _ => False) s') (I : Inv B pins σ H s) :
    wpAny (model B.prog B.w) B.A (do
      let v ← eval (.Name x xp) B.env
      standAt (Expr.Name x xp).pos
      let v ← foldedSetIterable (.Name x xp) B.env v
      let _ ← runOwn (.compStart (.ListComp elt gens scope cpos) d (← holding [v] (pyIter v)) acc B.env) B.env
      k) Qf (fun _ _ => False) s := by
  refine wpAny_bind (wpAny_mono (hpe.run pins s σ H (fun v H1 => v = .ref a ∧ H1 = H) I ⟨rfl, rfl⟩) (fun u s1 ⟨v, H1, I1, rv, ev, eH⟩ => ?_) fun e s z => (hxe e s z).elim)
  subst ev
  rw [eH] at I1
  obtain rfl : u = Value.ref a := rv
  refine wpAny_bind (wpAny_standAt (wpAny_bind (wpAny_of_eq (hs _) ?_)))
  obtain ⟨its, r', p', _⟩ := I1.tuple (sq H)
  refine wpAny_bind (wpAny_holding (wpAny_pyIter_tuple (show s1.heap.IsTuple a its.toArray from p') ?_))
  have I2 := I1.kept (h' := s1.heap.push { cls := .type "tuple_iterator", data := .fields #[.ref a, .int 0 0] }) (t' := s1.toks) fun b o q => Heap.get?_push_of_some _ q
  have z := hloop s1.heap.objs.size { s1 with heap := s1.heap.push { cls := .type "tuple_iterator", data := .fields #[.ref a, .int 0 0] } } I2 ⟨_, Heap.get?_push_size _ rfl, rfl, rfl⟩ (I1.fpOk (Nat.le_refl _) (I1.hok.fresh (Nat.le_refl _)))
  refine wpAny_bind (wpAny_runOwn ?_)
  rw [Around.mark_none]
  refine codeAny_mono z fun r s' ⟨er, q⟩ => ?_
  subst er
  exact hk s' q
end
end Kd
/-! K5b: name = [(a, b, c) for a in A for b in B for c in C], A, B, C tuples of three words of the top -/
namespace Kd
open PySem PySem.Spec PyProof.Rows L2
/-! ### slots: what is known -/
def Le (σ τ : L2.St) : Prop := σ.length = τ.length ∧ ∀ (i : Nat) v, σ[i]? = some (some v) → τ[i]? = some (some v)
theorem Le.refl (σ : L2.St) : Le σ σ := ⟨rfl, fun _ _ h => h⟩
theorem Le.trans {σ τ ρ : L2.St} (a : Le σ τ) (b : Le τ ρ) : Le σ ρ := ⟨a.1.trans b.1, fun i v h => b.2 i v (a.2 i v h)⟩
theorem Le.set {σ τ : L2.St} (a : Le σ τ) (j : Nat) (x : Option V) : Le (σ.set j x) (τ.set j x) := by
  refine ⟨by simp [a.1], fun i v h => ?_⟩
  by_cases e : j = i
  · subst e
    by_cases l : j < σ.length
    · rw [List.getElem?_set_self l] at h
      rw [List.getElem?_set_self (by rw [← a.1]; exact l)]
      exact h
    · rw [List.getElem?_eq_none (by simpa using l)] at h
      cases h
  · rw [List.getElem?_set_ne e] at h ⊢
    exact a.2 i v h
theorem Le.none_of {σ τ : L2.St} (a : Le σ τ) (j : Nat) (x : Option V) : Le (σ.set j none) (τ.set j x) := by
  refine ⟨by simp [a.1], fun i v h => ?_⟩
  by_cases e : j = i
  · subst e
    by_cases l : j < σ.length
    · rw [List.getElem?_set_self l] at h
      cases h
    · rw [List.getElem?_eq_none (by simpa using l)] at h
      cases h
  · rw [List.getElem?_set_ne e] at h ⊢
    exact a.2 i v h
theorem Le.drop (σ : L2.St) (j : Nat) : Le (σ.set j none) σ := by
  refine ⟨by simp, fun i v h => ?_⟩
  by_cases e : j = i
  · subst e
    by_cases l : j < σ.length
    · rw [List.getElem?_set_self l] at h
      cases h
    · rw [List.getElem?_eq_none (by simpa using l)] at h
      cases h
  · rw [List.getElem?_set_ne e] at h
    exact h
def nul (n : Nat) : L2.St := List.replicate n none
theorem Le.nul {σ : L2.St} {n : Nat} (h : n = σ.length) : Le (nul n) σ := by
  refine ⟨by simp [Kd.nul, h], fun i v q => ?_⟩
  unfold Kd.nul at q
  rw [List.getElem?_replicate] at q
  split at q <;> cases q
theorem invLe {X : Cx} {pins : List (Addr × Obj)} {σ τ : L2.St} {H : Hp} {s : Shared} (I : Inv X pins τ H s) (l : Le σ τ) : Inv X pins σ H s := I.weak l.1 l.2

def evK : List Kn := [0, 1, 2].flatMap fun a => [0, 1, 2].flatMap fun b => [0, 1, 2].map fun c => (a, b, c)
theorem evK_at : ∀ a b c : F3, evK.take (9 * a.val + 3 * b.val + c.val + 1) = evK.take (9 * a.val + 3 * b.val + c.val) ++ [(a, b, c)] := by decide +kernel
theorem evK_all : evK.take 27 = evK := by decide +kernel
theorem wsL_at : ∀ i : Nat, ∀ x, (wsL.map V.str)[i]? = some x → ∃ k : F3, k.val = i ∧ x = .str (wL k) := by
  intro i x h
  match i, h with
  | 0, h => exact ⟨0, rfl, (Option.some.inj h).symm⟩
  | 1, h => exact ⟨1, rfl, (Option.some.inj h).symm⟩
  | 2, h => exact ⟨2, rfl, (Option.some.inj h).symm⟩
  | n + 3, h => simp [wsL] at h
theorem wsT_at : ∀ i : Nat, ∀ x, (wsT.map V.str)[i]? = some x → ∃ k : F3, k.val = i ∧ x = .str (wT k) := by
  intro i x h
  match i, h with
  | 0, h => exact ⟨0, rfl, (Option.some.inj h).symm⟩
  | 1, h => exact ⟨1, rfl, (Option.some.inj h).symm⟩
  | 2, h => exact ⟨2, rfl, (Option.some.inj h).symm⟩
  | n + 3, h => simp [wsT] at h
theorem wsU_at : ∀ i : Nat, ∀ x, (wsU.map V.str)[i]? = some x → ∃ k : F3, k.val = i ∧ x = .str (wU k) := by
  intro i x h
  match i, h with
  | 0, h => exact ⟨0, rfl, (Option.some.inj h).symm⟩
  | 1, h => exact ⟨1, rfl, (Option.some.inj h).symm⟩
  | 2, h => exact ⟨2, rfl, (Option.some.inj h).symm⟩
  | n + 3, h => simp [wsU] at h
section
variable {X : Cx}
/-- what has grown so far -/
def Grown (K : PySem.W.Frag) (H1 : Hp) (D : Addr) (n : Nat) (H : Hp) : Prop := Same H1 H ∧ ∃ ys, H D = some (.lst ys) ∧ Ks K H ys (evK.take n)
theorem ps_every {i j0 j1 j2 : Nat} {nm y0 y1 y2 x0 x1 x2 : Str} {py pt p0 p1 p2 q0 q1 q2 r0 r1 r2 pos spos : Pos} {scope : Scope} {a0 a1 a2 : Addr} (hc : X.calm = true) (hN : X.N.Nodup) (hy : X.N[i]? = some nm) (hyl : X.env.scope.names.lookup nm = some .local)
    (hsw : swapsWith (.ListComp (.Tuple [.Name y0 r0, .Name y1 r1, .Name y2 r2] 0 pt) [⟨.Name y0 p0, .Name x0 q0, [], 0⟩, ⟨.Name y1 p1, .Name x1 q1, [], 0⟩, ⟨.Name y2 p2, .Name x2 q2, [], 0⟩] scope pos) (some (.Name nm py)) spos.line X.env = pure true)
    (h0 : PE X (.Name x0 q0) (tC (.ref a0))) (ok : BlkOk X.N X.env.scope scope [(y0, j0), (y1, j1), (y2, j2)]) (n01 : j0 ≠ j1) (n02 : j0 ≠ j2) (n12 : j1 ≠ j2) (l0 : j0 < X.N.length) (l1 : j1 < X.N.length) (l2 : j2 < X.N.length)
    (g0 : ∀ (s : Shared) (H : Hp) (C : Addr) (cl : List (Str × Addr)) (fp : List Addr), PG (X.blk s H scope (compEnvC scope cl C X.env) fp) (.Name y0 p0) (gName j0))
    (g1 : ∀ (s : Shared) (H : Hp) (C : Addr) (cl : List (Str × Addr)) (fp : List Addr), PG (X.blk s H scope (compEnvC scope cl C X.env) fp) (.Name y1 p1) (gName j1))
    (g2 : ∀ (s : Shared) (H : Hp) (C : Addr) (cl : List (Str × Addr)) (fp : List Addr), PG (X.blk s H scope (compEnvC scope cl C X.env) fp) (.Name y2 p2) (gName j2))
    (h1 : ∀ (s : Shared) (H : Hp) (C : Addr) (cl : List (Str × Addr)) (fp : List Addr), PE (X.blk s H scope (compEnvC scope cl C X.env) fp) (.Name x1 q1) (tC (.ref a1)))
    (h2 : ∀ (s : Shared) (H : Hp) (C : Addr) (cl : List (Str × Addr)) (fp : List Addr), PE (X.blk s H scope (compEnvC scope cl C X.env) fp) (.Name x2 q2) (tC (.ref a2)))
    (he : ∀ (s : Shared) (H : Hp) (C : Addr) (cl : List (Str × Addr)) (fp : List Addr), PE (X.blk s H scope (compEnvC scope cl C X.env) fp) (.Tuple [.Name y0 r0, .Name y1 r1, .Name y2 r2] 0 pt) (tTup (tCons (tVar j0) (tCons (tVar j1) (tCons (tVar j2) tNil)))))
    (sq0 : ∀ H, SqT X.K H a0 (wsL.map V.str)) (sq1 : ∀ H, SqT X.K H a1 (wsT.map V.str)) (sq2 : ∀ H, SqT X.K H a2 (wsU.map V.str))
    (f0 : ∀ v, foldedSetIterable (.Name x0 q0) X.env v = pure v := by intro _; rfl) (f1 : ∀ env v, foldedSetIterable (.Name x1 q1) env v = pure v := by intro _ _; rfl) (f2 : ∀ env v, foldedSetIterable (.Name x2 q2) env v = pure v := by intro _ _; rfl) :
    PS X (.Assign [.Name nm py] (.ListComp (.Tuple [.Name y0 r0, .Name y1 r1, .Name y2 r2] 0 pt) [⟨.Name y0 p0, .Name x0 q0, [], 0⟩, ⟨.Name y1 p1, .Name x1 q1, [], 0⟩, ⟨.Name y2 p2, .Name x2 q2, [], 0⟩] scope pos) spos)
      (fun D σ H => ∀ H' p ys, Same H H' → H p = none → H' p = some (.lst ys) → Ks X.K H' ys evK → D.nx (σ.set i (some (.ref p))) H') := by
  refine ⟨fun pins s σ H D I h => ?_⟩
  have hfree : ∀ y ∈ scope.names, y.2 = .free → ∃ c, X.env.cells.lookup y.1 = some c := fun y hy e => (ok.free y hy e).elim (fun k => I.ok.has _ (.inl k)) fun k => I.ok.has _ (.inr k)
  rw [exec_Assign_Name_used _ _ _ _ hsw]
  refine wpAny_bind (wpAny_standAt (wpAny_bind ?_))
  show wpAny _ X.A (do let _ ← comprehension (.ListComp (.Tuple [.Name y0 r0, .Name y1 r1, .Name y2 r2] 0 pt) [⟨.Name y0 p0, .Name x0 q0, [], 0⟩, ⟨.Name y1 p1, .Name x1 q1, [], 0⟩, ⟨.Name y2 p2, .Name x2 q2, [], 0⟩] scope pos) scope X.env (firstIterPos [⟨.Name y0 p0, .Name x0 q0, [], 0⟩, ⟨.Name y1 p1, .Name x1 q1, [], 0⟩, ⟨.Name y2 p2, .Name x2 q2, [], 0⟩] pos) (newList []) false (eval (.Name x0 q0) X.env) (some (assign (.Name nm py) X.env))) _ _ s
  refine wpAny_bind (wpAny_mono (Q := fun _ s' => SP X pins D .next s') ?_ (fun _ s' hq => wpAny_pure (wpAny_pure hq)) fun _ _ z => z)
  refine wpAny_comprehension_free rfl f0 (closure_ok hfree) ok.kind (fun y hy e => by rw [ok.uniq y hy, e])
    (thn (h0.run pins s σ H (fun v H1 => v = .ref a0 ∧ H1 = H) I ⟨rfl, rfl⟩) fun u s1 ⟨v, H1, I1, rv, ev, eH⟩ => ?_)
  subst ev
  rw [eH] at I1
  obtain rfl : u = Value.ref a0 := rv
  obtain ⟨its, r', p', _⟩ := I1.tuple (sq0 H)
  refine wpAny_pyIter_tuple (show s1.heap.IsTuple a0 its.toArray from p') ?_
  have I2 := I1.kept (h' := s1.heap.push { cls := .type "tuple_iterator", data := .fields #[.ref a0, .int 0 0] }) (t' := s1.toks) fun b o q => Heap.get?_push_of_some _ q
  have fIt : FpOk X pins H s1.heap.objs.size := I1.fpOk (Nat.le_refl _) (I1.hok.fresh (Nat.le_refl _))
  have sIt : (s1.heap.push { cls := .type "tuple_iterator", data := .fields #[.ref a0, .int 0 0] }).IsTupleIter s1.heap.objs.size a0 0 := ⟨_, Heap.get?_push_size _ rfl, rfl, rfl⟩
  generalize s1.heap.objs.size = it at fIt sIt ⊢
  generalize hs2 : ({ s1 with heap := s1.heap.push { cls := .type "tuple_iterator", data := .fields #[.ref a0, .int 0 0] } } : Shared) = s2 at I2
  have sIt2 : s2.heap.IsTupleIter it a0 0 := by rw [← hs2]; exact sIt
  have goal2 : wpAny (model X.prog X.w) X.A (newList [] : Sem Value) (fun acc s₃ => wpAny (model X.prog X.w) X.A (newFunctionEnv scope X.env.globals (cloFrom X.env.cells scope.names []) [] X.env.qual none .none (some X.env)) (fun cenv s₄ =>
      codeAny (model X.prog X.w) X.A (.compStart (.ListComp (.Tuple [.Name y0 r0, .Name y1 r1, .Name y2 r2] 0 pt) [⟨.Name y0 p0, .Name x0 q0, [], 0⟩, ⟨.Name y1 p1, .Name x1 q1, [], 0⟩, ⟨.Name y2 p2, .Name x2 q2, [], 0⟩] scope pos) 0 (.ref it) acc { cenv with scope := relabel scope X.env })
        (compPost (model X.prog X.w) X.A X.xe (some (assign (.Name nm py) X.env)) (fun _ s' => SP X pins D .next s') acc cenv.locals) s₄) X.xe s₃) X.xe s2 := by
    refine wpAny_newObj_type (newEnv_comp ?_) (by show 0 ≤ sizeLine; decide)
    generalize hD : s2.heap.objs.size = Da
    have hDn : H Da = none := I2.hok.fresh (Nat.le_of_eq hD)
    generalize hs3 : ({ s2 with heap := s2.heap.push { cls := .type "list", data := .seq ([] : List Value).toArray } } : Shared) = s3
    have h3 : s3.heap = s2.heap.push { cls := .type "list", data := .seq ([] : List Value).toArray } := by rw [← hs3]
    have I3 : Inv X pins σ (upd H Da (.lst [])) s3 := by
      rw [← hs3]
      refine I2.laid (t' := s2.toks) (fun b o e => Heap.get?_push_of_some _ e) (Nat.le_of_eq hD) ⟨Nat.zero_le _, [], 0, .nil, ?_⟩
      rw [← hD]
      exact Heap.get?_push_size _ rfl
    have itlt : it < s2.heap.objs.size := by
      obtain ⟨o, e, _⟩ := sIt2
      exact Heap.lt_size e
    have f3 : ∀ b ∈ [it], FpOk X pins (upd H Da (.lst [])) b ∧ b < s3.heap.objs.size := fun b hb => by
      have e : b = it := by simpa using hb
      subst e
      refine ⟨⟨?_, fIt.2⟩, by rw [h3, Heap.size_push]; exact Nat.lt_succ_of_lt itlt⟩
      rw [upd_ne (by rw [← hD]; exact Nat.ne_of_lt itlt)]
      exact fIt.1
    have st3 : s3.heap.IsTupleIter it a0 0 := sIt2.at fun o e => by rw [h3]; exact Heap.get?_push_of_some _ e
    have I4 := block_start I3 ok hN f3
    have B0 := g0 s3 (upd H Da (.lst [])) s3.heap.objs.size (cellsFrom (s3.heap.objs.size + 1) scope.names (cloFrom X.env.cells scope.names [])) [it]
    have B1 := g1 s3 (upd H Da (.lst [])) s3.heap.objs.size (cellsFrom (s3.heap.objs.size + 1) scope.names (cloFrom X.env.cells scope.names [])) [it]
    have B2 := g2 s3 (upd H Da (.lst [])) s3.heap.objs.size (cellsFrom (s3.heap.objs.size + 1) scope.names (cloFrom X.env.cells scope.names [])) [it]
    have E1 := h1 s3 (upd H Da (.lst [])) s3.heap.objs.size (cellsFrom (s3.heap.objs.size + 1) scope.names (cloFrom X.env.cells scope.names [])) [it]
    have E2 := h2 s3 (upd H Da (.lst [])) s3.heap.objs.size (cellsFrom (s3.heap.objs.size + 1) scope.names (cloFrom X.env.cells scope.names [])) [it]
    have Et := he s3 (upd H Da (.lst [])) s3.heap.objs.size (cellsFrom (s3.heap.objs.size + 1) scope.names (cloFrom X.env.cells scope.names [])) [it]
    show codeAny _ _ (.compStart _ 0 (.ref it) (.ref Da) (compEnvC scope (cellsFrom (s3.heap.objs.size + 1) scope.names (cloFrom X.env.cells scope.names [])) s3.heap.objs.size X.env)) (compPost (model X.prog X.w) X.A X.xe _ _ (.ref Da) s3.heap.objs.size) { s3 with heap := pushCells (s3.heap.push { cls := .type "dict", data := .dict #[] }) scope.names }
    generalize hce : compEnvC scope (cellsFrom (s3.heap.objs.size + 1) scope.names (cloFrom X.env.cells scope.names [])) s3.heap.objs.size X.env = ce at I4 B0 B1 B2 E1 E2 Et ⊢
    have cL : ce.locals = s3.heap.objs.size := by subst hce; rfl
    generalize hs4 : ({ s3 with heap := pushCells (s3.heap.push { cls := .type "dict", data := .dict #[] }) scope.names } : Shared) = s4 at I4 ⊢
    have st4 : s4.heap.IsTupleIter it a0 0 := st3.at fun o e => by rw [← hs4]; exact pushCells_keeps _ _ _ _ (Heap.get?_push_of_some _ e)
    have fB : FpOk (X.blk s3 (upd H Da (.lst [])) scope ce [it]) [] (upd H Da (.lst [])) it := ⟨(f3 it (by simp)).1.1, (I4.ok.exf it (by simp)).1, I4.ok.exfs it (by simp), .inl (by simp), fun x c e => (I4.ok.exf it (by simp)).2 x c e, fun p hp => absurd (show p ∈ ([] : List (Addr × Obj)) ++ [] from hp) (by simp)⟩
    have hxe : ∀ e s, ¬ (X.blk s3 (upd H Da (.lst [])) scope ce [it]).xe e s := fun _ _ z => z
    have hlen : (wipe σ ([(y0, j0), (y1, j1), (y2, j2)].map (·.2))).length = X.N.length := by rw [wipe_length]; exact I.len
    have nl : ∀ j x, ((nul X.N.length).set j x).length = X.N.length := fun j x => by simp [nul]
    refine start_ok rfl st4 ?_
    refine lvl (B := X.blk s3 (upd H Da (.lst [])) scope ce [it]) (σ := nul X.N.length) (pins := []) (tb := do
        let v ← eval (.Name x1 q1) ce
        standAt (Expr.Name x1 q1).pos
        let v ← foldedSetIterable (.Name x1 q1) ce v
        let _ ← runOwn (.compStart (.ListComp (.Tuple [.Name y0 r0, .Name y1 r1, .Name y2 r2] 0 pt) [⟨.Name y0 p0, .Name x0 q0, [], 0⟩, ⟨.Name y1 p1, .Name x1 q1, [], 0⟩, ⟨.Name y2 p2, .Name x2 q2, [], 0⟩] scope pos) 1 (← holding [v] (pyIter v)) (.ref Da) ce) ce
        again (.compLoop (.ListComp (.Tuple [.Name y0 r0, .Name y1 r1, .Name y2 r2] 0 pt) [⟨.Name y0 p0, .Name x0 q0, [], 0⟩, ⟨.Name y1 p1, .Name x1 q1, [], 0⟩, ⟨.Name y2 p2, .Name x2 q2, [], 0⟩] scope pos) 0 (.ref it) (.ref Da) ce))
      hc hxe (by rfl) B0 sq0 (fun n H' => Grown X.K H Da (9 * n) H') _ (fun n0 x H' s' pins0 hx g I' => ?_) (fun H' s' g I' => ?_) (invLe I4 ((Le.drop _ _).trans (Le.nul hlen.symm))) st4 fB ⟨fun b o e => by rw [upd_ne (ne_of_none e hDn)]; exact e, [], upd_same, .nil⟩
    · -- the first clause's turn
      obtain ⟨k0, hk0, ex0⟩ := wsL_at n0 x hx
      refine lvl_start (B := X.blk s3 (upd H Da (.lst [])) scope ce [it]) (Q := fun s5 => ∃ H5, Inv (X.blk s3 (upd H Da (.lst [])) scope ce [it]) ([] ++ pins0) ((nul X.N.length).set j0 none) H5 s5 ∧ Grown X.K H Da (9 * (n0 + 1)) H5) E1 hxe sq1 (f1 ce) (fun it1 s5 I5 st5 fp5 => start_ok rfl st5 ?_) _
        (fun s5 q5 => wpAny_pure ⟨rfl, q5⟩) I'
      refine lvl (B := X.blk s3 (upd H Da (.lst [])) scope ce [it]) (σ := (nul X.N.length).set j0 (some x)) (pins := [] ++ pins0) (tb := do
          let v ← eval (.Name x2 q2) ce
          standAt (Expr.Name x2 q2).pos
          let v ← foldedSetIterable (.Name x2 q2) ce v
          let _ ← runOwn (.compStart (.ListComp (.Tuple [.Name y0 r0, .Name y1 r1, .Name y2 r2] 0 pt) [⟨.Name y0 p0, .Name x0 q0, [], 0⟩, ⟨.Name y1 p1, .Name x1 q1, [], 0⟩, ⟨.Name y2 p2, .Name x2 q2, [], 0⟩] scope pos) 2 (← holding [v] (pyIter v)) (.ref Da) ce) ce
          again (.compLoop (.ListComp (.Tuple [.Name y0 r0, .Name y1 r1, .Name y2 r2] 0 pt) [⟨.Name y0 p0, .Name x0 q0, [], 0⟩, ⟨.Name y1 p1, .Name x1 q1, [], 0⟩, ⟨.Name y2 p2, .Name x2 q2, [], 0⟩] scope pos) 1 (.ref it1) (.ref Da) ce))
        hc hxe (by rfl) B1 sq1 (fun n H6 => Grown X.K H Da (9 * n0 + 3 * n) H6) _ (fun n1 u H6 s6 pins1 hu g6 I6 => ?_) (fun H6 s6 g6 I6 => ?_) (invLe I5 (Le.drop _ _)) st5 fp5 g
      · -- the second clause's turn
        obtain ⟨k1, hk1, ex1⟩ := wsT_at n1 u hu
        have lv : Le (((nul X.N.length).set j0 (some x)).set j1 none) ((((nul X.N.length).set j0 (some x)).set j1 (some u)).set j2 none) := by
          rw [List.set_comm _ _ n12]
          refine Le.none_of ?_ j1 (some u)
          rw [List.set_comm _ _ n02]
          exact (Le.nul (by simp [nul])).set j0 (some x)
        refine lvl_start (B := X.blk s3 (upd H Da (.lst [])) scope ce [it]) (Q := fun s7 => ∃ H7, Inv (X.blk s3 (upd H Da (.lst [])) scope ce [it]) (([] ++ pins0) ++ pins1) (((nul X.N.length).set j0 (some x)).set j1 none) H7 s7 ∧ Grown X.K H Da (9 * n0 + 3 * (n1 + 1)) H7) E2 hxe sq2 (f2 ce) (fun it2 s7 I7 st7 fp7 => start_ok rfl st7 ?_) _
          (fun s7 q7 => wpAny_pure ⟨rfl, q7⟩) I6
        refine lvl (B := X.blk s3 (upd H Da (.lst [])) scope ce [it]) (σ := ((nul X.N.length).set j0 (some x)).set j1 (some u)) (pins := ([] ++ pins0) ++ pins1) (tb := do
            (do let _ ← call (.builtin "list.append") [.ref Da, ← eval (.Tuple [.Name y0 r0, .Name y1 r1, .Name y2 r2] 0 pt) ce] : Sem Unit)
            again (.compLoop (.ListComp (.Tuple [.Name y0 r0, .Name y1 r1, .Name y2 r2] 0 pt) [⟨.Name y0 p0, .Name x0 q0, [], 0⟩, ⟨.Name y1 p1, .Name x1 q1, [], 0⟩, ⟨.Name y2 p2, .Name x2 q2, [], 0⟩] scope pos) 2 (.ref it2) (.ref Da) ce))
          hc hxe (by rfl) B2 sq2 (fun n H8 => Grown X.K H Da (9 * n0 + 3 * n1 + n) H8) _ (fun n2 z H8 s8 pins2 hz g8 I8 => ?_) (fun H8 s8 g8 I8 => ?_) (invLe I7 (Le.drop _ _)) st7 fp7 g6
        · -- the element
          obtain ⟨k2, hk2, ex2⟩ := wsU_at n2 z hz
          obtain ⟨sm, ys, hys, ks⟩ := g8
          have a0 : ((((nul X.N.length).set j0 (some x)).set j1 (some u)).set j2 (some z))[j0]? = some (some x) := by
            rw [List.getElem?_set_ne n02.symm, List.getElem?_set_ne n01.symm, List.getElem?_set_self (by simpa [nul] using l0)]
          have a1 : ((((nul X.N.length).set j0 (some x)).set j1 (some u)).set j2 (some z))[j1]? = some (some u) := by
            rw [List.getElem?_set_ne n12.symm, List.getElem?_set_self (by simpa [nul] using l1)]
          have a2 : ((((nul X.N.length).set j0 (some x)).set j1 (some u)).set j2 (some z))[j2]? = some (some z) := by
            rw [List.getElem?_set_self (by simpa [nul] using l2)]
          have hl27 : ys.length ≤ 27 := by
            have q := ks.len
            rw [List.length_take] at q
            have q2 : evK.length = 27 := by decide +kernel
            omega
          refine wpAny_bind (wpAny_bind (wpAny_mono (Et.run _ s8 _ H8 (fun v H9 => ∃ p, v = .ref p ∧ H8 p = none ∧ H9 = upd H8 p (.tup [x, u, z])) I8 ⟨x, a0, u, a1, z, a2, (by show 3 ≤ sizeLine; decide), fun p hp => ⟨p, rfl, hp, rfl⟩⟩) (fun v s9 ⟨vv, H9, I9, rv, p, ev, hp, eH⟩ => ?_) fun e s q => (hxe e s q).elim))
          subst ev eH
          have hD9 : upd H8 p (.tup [x, u, z]) Da = some (.lst ys) := by rw [upd_ne (ne_of_none hys hp)]; exact hys
          refine wpAny_bind (app_ok I9 hD9 (Nat.lt_of_le_of_lt hl27 (by decide)) rv fun s10 I10 => wpAny_pure (wpAny_pure ⟨rfl, _, invLe I10 (Le.none_of (Le.refl _) j2 (some z) |>.trans ?_), ?_⟩))
          · exact Le.refl _
          · have keep : ∀ b o, H8 b = some o → b ≠ Da → upd (upd H8 p (.tup [x, u, z])) Da (.lst (ys ++ [V.ref p])) b = some o := fun b o e nb => by
              rw [upd_ne nb, upd_ne (ne_of_none e hp)]
              exact e
            have tk : Tk H8 (upd (upd H8 p (.tup [x, u, z])) Da (.lst (ys ++ [V.ref p]))) := ⟨fun b xs e => keep b _ e (ne_of e hys (fun q => nomatch q)), fun b o u e => keep b _ e (ne_of e hys (fun q => nomatch q))⟩
            refine ⟨fun b o e => keep b o (sm b o e) (ne_of_none e hDn), ys ++ [V.ref p], upd_same, ?_⟩
            have e27 : evK.take (9 * n0 + 3 * n1 + (n2 + 1)) = evK.take (9 * n0 + 3 * n1 + n2) ++ [(k0, k1, k2)] := by
              rw [← hk0, ← hk1, ← hk2]
              exact evK_at k0 k1 k2
            rw [e27]
            refine (ks.tk tk).append (.cons ⟨p, rfl, SqT.of ?_⟩ .nil)
            rw [upd_ne (ne_of_none hys hp).symm, upd_same, ex0, ex1, ex2]
            rfl
        · refine ⟨rfl, H8, invLe I8 lv, ?_⟩
          have q : 9 * n0 + 3 * n1 + (wsU.map V.str).length = 9 * n0 + 3 * (n1 + 1) := by
            show 9 * n0 + 3 * n1 + 3 = _
            omega
          rw [← q]
          exact g8
      · refine ⟨rfl, H6, invLe I6 ?_, ?_⟩
        · exact ((Le.drop _ _).trans (Le.nul (by simp [nul])))
        · have q : 9 * n0 + 3 * (wsT.map V.str).length = 9 * (n0 + 1) := by
            show 9 * n0 + 3 * 3 = _
            omega
          rw [← q]
          exact g6
    · -- the end
      obtain ⟨sm, ys, hys, ks⟩ := g
      have I7 : Inv X pins σ H' s' := I3.call' (ch := [it]) I'.os I'.base I'.hok I'.bare fun b hb => ⟨(f3 b hb).1.2.2.2.1, (f3 b hb).1.2.1, (f3 b hb).1.2.2.2.2.1, (f3 b hb).1.2.2.2.2.2⟩
      have nC : H' s3.heap.objs.size = none := by
        have z : H' ce.locals = none := I'.free
        rw [cL] at z
        exact z
      obtain ⟨m, hn, _⟩ := I'.loc
      have hn : s'.heap.Ns ce.locals m := hn
      rw [cL] at hn
      obtain ⟨c0, c1, c2, c3, c4, c5⟩ := I3.fpOk (Nat.le_refl _) nC
      show wpAny _ _ (assign (.Name nm py) X.env (.ref Da)) _ _ _
      refine wpAny_assign_Name (store_ok2 (v := V.ref Da) I7 hN hy (.inl hyl) rfl (fun s9 I9 ⟨b, sb, hb⟩ => ?_) (.inr hyl))
      have haC : s3.heap.objs.size ≠ b := by
        rcases hb with z | z
        · rw [z]
          exact c1
        · exact fun e => c4 nm b z e.symm
      refine ⟨m, hn.sameBut sb haC, fun h9 sb9 => ?_⟩
      refine ⟨_, H', I9.turned (t' := s9.toks) (fun b o hb e => (sb9.2 b hb).trans e) c0 c1 c3 c4 c5, h H' Da ys sm hDn hys ?_⟩
      rw [← evK_all]
      exact ks
  exact goal2
end
end Kd
/-! K6: kinds(least, most), a generator -/
namespace Kd
open PySem PySem.Spec PyProof.Rows L2 GenW
/-! ### sorted -/
def allK : List Kn := [1, 2, 0].flatMap fun a => [1, 0, 2].flatMap fun b => [2, 1, 0].map fun c => (a, b, c)
theorem allK_pw : allK.Pairwise (fun a b => PySem.W.dataLe false kd a b = true) := by decide +kernel
theorem allK_fl : ∀ a b c : F3, allK.filter (PySem.W.sameRank (PySem.W.dataLe false kd) (a, b, c)) = evK.filter (PySem.W.sameRank (PySem.W.dataLe false kd) (a, b, c)) := by decide +kernel
theorem allK_sort : allK = evK.mergeSort (PySem.W.dataLe false kd) :=
  PySem.W.sort_unique (PySem.W.sortLe_total _ _ _) allK_pw fun c => allK_fl c.1 c.2.1 c.2.2
theorem allK_all : ∀ a b c : F3, (a, b, c) ∈ allK := by decide +kernel
theorem mem_allK (k : Kn) : k ∈ allK := allK_all k.1 k.2.1 k.2.2
theorem evK_len : evK.length = 27 := by decide +kernel
theorem allK_len : allK.length = 27 := by decide +kernel
theorem kds_alike (ks : List Kn) : PySem.W.AllAlike (ks.map kd) := fun d hd d' hd' => by
  obtain ⟨k, _, rfl⟩ := List.mem_map.mp hd
  obtain ⟨j, _, rfl⟩ := List.mem_map.mp hd'
  simp [kd, PySem.W.alike, PySem.W.alikeAll]
theorem kds_sortable (ks : List Kn) : PySem.W.Sortable (ks.map kd) := .inl fun d hd => by
  obtain ⟨k, _, rfl⟩ := List.mem_map.mp hd
  exact ⟨_, _, rfl⟩
theorem kd_depth (k : Kn) : (kd k).depth = 1 := by simp [kd, PyData.depth, PyData.depthAll]
section
variable {X : Cx} {pins : List (Addr × Obj)} {σ : L2.St} {H : Hp} {s : Shared}
theorem each_of (I : Inv X pins σ H s) : ∀ {xs : List V} {us : List Value} {ks : List Kn}, Vals xs us → Ks X.K H xs ks → PySem.W.EachIs (fun u k => ∃ v, RelV v u ∧ KindAt X.K H v k) us ks ∧ PySem.W.EachIs (fun u k => ∃ as, Reads s.heap u (kd k) as) us ks
  | _, _, _, .nil, .nil => ⟨.nil, .nil⟩
  | _, _, _, .cons r rs, .cons k ks => by
    obtain ⟨h1, h2⟩ := each_of I rs ks
    exact ⟨.cons ⟨_, r, k⟩ h1, .cons (Dp.reads I _ _ _ k.dp r) h2⟩
theorem of_each {K : PySem.W.Frag} : ∀ {us : List Value} {ks : List Kn}, PySem.W.EachIs (fun u k => ∃ v, RelV v u ∧ KindAt K H v k) us ks → ∃ ys, Vals ys us ∧ Ks K H ys ks
  | _, _, .nil => ⟨[], .nil, .nil⟩
  | _, _, .cons ⟨v, r, k⟩ t => by
    obtain ⟨ys, a, b⟩ := of_each t
    exact ⟨v :: ys, .cons r a, .cons k b⟩
def rSortK (K : PySem.W.Frag) : List V → Hp → VK → Prop := fun vs H Q => ∃ a xs, vs = [.ref a] ∧ SqL K H a xs ∧ Ks K H xs evK ∧ ∀ p ys, H p = none → Ks K H ys allK → Q (.ref p) (upd H p (.lst ys))
theorem cr_sortK (hu : X.A.units + 4 < cLine) : CallR X (.builtin "sorted") (rSortK X.K) := by
  intro pins s σ H xs us Q I r h
  obtain ⟨a, zs, rfl, hs, ks, q⟩ := h
  obtain ⟨u, rfl, ru⟩ := vals1 r
  obtain rfl : u = Value.ref a := ru
  obtain ⟨its, rv, pl, hz⟩ := I.list hs
  obtain ⟨e1, e2⟩ := each_of I rv ks
  refine PySem.W.sorted_data pl.isList e1 e2 (kds_alike _) (kds_sortable _) (by rw [evK_len]; decide) (fun b _ => by rw [kd_depth]; omega) fun out hl ho => ?_
  rw [← allK_sort] at ho
  obtain ⟨ys, vy, ky⟩ := of_each ho
  obtain ⟨c, hc⟩ := sortedAll_at s.heap its out.toArray
  refine ⟨.ref (s.heap.objs.size + 1), _, I.laid (t' := s.toks) (fun b o e => sortedAll_old e) (Nat.le_succ _) ?_, rfl, q _ ys (I.hok.fresh (Nat.le_succ _)) ky⟩
  exact ⟨by rw [ky.len, allK_len]; decide, out, c, vy, hc⟩
end

/-! ### the promise -/
def okL' : Option Kn → Kn → Bool
  | none, _ => true
  | some o, k => loose k o
def okM' : Option Kn → Kn → Bool
  | none, _ => true
  | some o, k => loose o k
def okB (ol om : Option Kn) (k : Kn) : Bool := okL' ol k && okM' om k
def res (ol om : Option Kn) : List Kn := allK.filter (okB ol om)
def Bnd (K : PySem.W.Frag) (H : Hp) (v : V) (o : Option Kn) : Prop := (v = .non ∧ o = none) ∨ ∃ k, KindAt K H v k ∧ o = some k
theorem Bnd.tk {K : PySem.W.Frag} {H H' : Hp} {v : V} {o : Option Kn} (h : Bnd K H v o) (t : Tk H H') : Bnd K H' v o := by
  rcases h with h | ⟨k, a, b⟩
  · exact .inl h
  · exact .inr ⟨k, a.tk t, b⟩
def spKinds (K : PySem.W.Frag) : SpJ := fun vs H Yd Q E => ∃ l m, vs = [l, m] ∧
  ((∃ ol om, Bnd K H l ol ∧ Bnd K H m om ∧ (∀ H' ys x n k, Same H H' → Ks K H' ys ((res ol om).take n) → (res ol om)[n]? = some k → KindAt K H' x k → Yd ys x H') ∧ ∀ H' ys, Same H H' → Ks K H' ys (res ol om) → Q ys H') ∨
   (((NotKind H l ∧ l ≠ .non) ∨ ((∃ ol, Bnd K H l ol) ∧ NotKind H m ∧ m ≠ .non)) ∧ ∀ H', Same H H' → E (CI K) none H'))
abbrev nK : List Str := ["least", "most", "bound", "every", "kind", "lending", "letting", "turning"]
theorem scG : GScope nK ["least", "most"] (defScope (top 10)) := ⟨rfl, rfl, rfl, by decide +kernel, rfl, by decide +kernel, by decide +kernel⟩
/-- a list walked by a loop that hands out -/
theorem jfor_list {K : PySem.W.Frag} {a : Addr} {xs : List V} {g : TG} {tb : TJ} {D : JEnds} {ys : List V} {σ : L2.St} {H : Hp} (Pv : Nat → List V → L2.St → Hp → Prop) (h0 : Pv 0 ys σ H) (hl : ∀ i ys σ H, i ≤ xs.length → Pv i ys σ H → SqL K H a xs)
    (hs : ∀ i x ys σ H, xs[i]? = some x → Pv i ys σ H → g x σ H fun σ2 H2 => tb { D with nx := Pv (i + 1), ct := Pv (i + 1), bk := D.nx } ys σ2 H2) (hd : ∀ ys σ H, Pv xs.length ys σ H → D.nx ys σ H) :
    ∃ W : Nat → Nat → List V → L2.St → Hp → Prop, (∃ m, W 0 m ys σ H) ∧ ∀ i m ys σ H, W i m ys σ H →
      ((Itl K a).stop i H ∧ D.nx ys σ H) ∨ ((Itl K a).go i H ∧ ∃ Nx : List V → L2.St → Hp → Prop, (∀ ys' σ' H', Nx ys' σ' H' → ∃ m', m' < m ∧ W (i + 1) m' ys' σ' H') ∧ ∀ x H', (Itl K a).yld i H x H' → g x σ H' fun σ2 H2 => tb { D with nx := Nx, ct := Nx, bk := D.nx } ys σ2 H2) := by
  refine ⟨fun i m ys σ H => m = xs.length - i ∧ i ≤ xs.length ∧ Pv i ys σ H, ⟨xs.length, by simp, Nat.zero_le _, h0⟩, ?_⟩
  rintro i m ys σ H ⟨rfl, hi, p⟩
  have q := hl i ys σ H hi p
  rcases Nat.lt_or_ge i xs.length with hlt | hge
  · refine .inr ⟨⟨xs, xs[i], q, by simp [hlt]⟩, Pv (i + 1), fun ys' σ' H' p' => ⟨xs.length - (i + 1), by omega, rfl, hlt, p'⟩, fun x H' yx => ?_⟩
    obtain ⟨eH, yx⟩ := yx
    subst eH
    exact hs i x ys σ _ (yx xs q) p
  · obtain rfl : i = xs.length := by omega
    exact .inl ⟨⟨xs, q, Nat.le_refl _⟩, hd ys σ H p⟩
theorem take_snoc {α : Type} {l : List α} {i : Nat} {x : α} (h : l[i]? = some x) : l.take (i + 1) = l.take i ++ [x] := by
  rw [List.take_add_one, h]
  rfl
theorem filter_at {α : Type} {l : List α} {p : α → Bool} {i : Nat} {x : α} (h : l[i]? = some x) (hp : p x = true) : (l.filter p)[((l.take i).filter p).length]? = some x ∧ (l.filter p).take ((l.take i).filter p).length = (l.take i).filter p := by
  have hi : i < l.length := (List.getElem?_eq_some_iff.mp h).1
  have e : l = l.take i ++ (x :: l.drop (i + 1)) := by
    have q := List.getElem?_eq_some_iff.mp h
    rw [← q.2, ← List.drop_eq_getElem_cons hi, List.take_append_drop]
  have e2 : l.filter p = (l.take i).filter p ++ (x :: (l.drop (i + 1)).filter p) := by
    conv => lhs; rw [e]
    rw [List.filter_append, List.filter_cons_of_pos hp]
  rw [e2]
  exact ⟨by simp, by simp⟩
section
variable {P : Program} {w : World} {K : PySem.W.Frag} {mg : Str → Option Value} {base : Heap}
theorem jok_kinds {fd : FuncData} (T : Tx K mg) (F : FunD K "kinds" "kinds" (defArgs (top 10)) (defBody (top 10)) (defScope (top 10)) [] [("least", .non), ("most", .non)] (He.ga K "kinds") fd)
    (hR : Has P w K mg base (L2.CX P w) 2 "require_kind" ["kind"] (spReq K)) (hA : Has P w K mg base (L2.CX P w) 3 "is_as_loose" ["kind", "other"] (spLoose K)) :
    JFn P w K mg base 4 (He.ga K "kinds") fd ["least", "most"] (spKinds K) := by
  obtain ⟨oc, od, dV, kV, doc, pm, an, cdv, ct, osl, rfl, lk, hcd, _, _⟩ := F.ex
  refine jfn_of lk hcd scG (fun vs H Yd Q E h => ?_) (fun A outer s H vs Yd Q E pn C hr h => ?_)
  · obtain ⟨l, m, rfl, _⟩ := h
    rfl
  have gS : mg "sorted" = none := T.fre _ (by decide)
  have gL : mg "LENDINGS" = some (.ref (He.ga K "LENDINGS")) := T.glo _ (by decide)
  have gT : mg "LETTINGS" = some (.ref (He.ga K "LETTINGS")) := T.glo _ (by decide)
  have gU : mg "TURNINGS" = some (.ref (He.ga K "TURNINGS")) := T.glo _ (by decide)
  have hu : (A.deeper (envOfC "kinds" (defScope (top 10)) s.heap.objs.size (He.ga K "kinds") cdv)).units + 4 < cLine := by
    have := hr.un
    omega
  refine ⟨_, jss_cons (js_plain (ps_for owns_gcx rfl (pi_tup (pe_tup (pa_cons (pv 0) (pa_cons (pv 1) pa_nil)))) (pg_name (i := 2) scG.nd rfl (.inl rfl))
      (pss_one (ps_if (pt_cmp (pc_notN (pv 2))) (pss_one (ps_expr (pe_has hR hr (passes_call takes_gcx (E := E) (fun _ _ _ _ z => z)) (pa_cons (pv 2) pa_nil)))) pss_nil))))
    (jss_cons (js_plain (ps_every (i := 3) (j0 := 5) (j1 := 6) (j2 := 7) rfl scG.nd rfl rfl (sw_true rfl rfl rfl (by decide +kernel)) (pe_glob (v := .ref (He.ga K "LENDINGS")) rfl gL rfl) (blkOk_by (N := nK) (sc := defScope (top 10)) (by decide +kernel)) (by decide) (by decide) (by decide) (by show 5 < 8; decide) (by show 6 < 8; decide) (by show 7 < 8; decide)
        (fun _ _ _ _ _ => pg_name (i := 5) scG.nd rfl (.inl rfl)) (fun _ _ _ _ _ => pg_name (i := 6) scG.nd rfl (.inl rfl)) (fun _ _ _ _ _ => pg_name (i := 7) scG.nd rfl (.inl rfl))
        (fun _ _ _ _ _ => pe_glob (v := .ref (He.ga K "LETTINGS")) rfl gT rfl) (fun _ _ _ _ _ => pe_glob (v := .ref (He.ga K "TURNINGS")) rfl gU rfl) (fun _ _ _ _ _ => pe_tup (pa_cons (pv 5) (pa_cons (pv 6) (pa_cons (pv 7) pa_nil)))) T.L.sq T.T.sq T.U.sq))
    (jss_cons (js_for owns_gcx rfl (pi_list (pe_callB (cr_sortK hu) rfl gS PyProof.Rows.boot_sorted (pa_cons (pv 3) pa_nil))) (pg_name (i := 4) scG.nd rfl (.inl rfl))
      (jss_cons (js_if (PW.pt (pw_and (PW.pt (pw_or (pt_cmp (pc_isN (pv 0))) (pw_or1 (pt_val (pe_has hA hr (passes_call takes_gcx (E := E) (fun _ _ _ _ z => z)) (pa_cons (pv 4) (pa_cons (pv 0) pa_nil))))))) (pw_and1 (PW.pt (pw_or (pt_cmp (pc_isN (pv 1))) (pw_or1 (pt_val (pe_has hA hr (passes_call takes_gcx (E := E) (fun _ _ _ _ z => z)) (pa_cons (pv 1) (pa_cons (pv 4) pa_nil))))))))))
        (jss_cons (js_yield (pv 4)) jss_nil) jss_nil) jss_nil)) jss_nil)), ?_⟩
  obtain ⟨l, m, rfl, h⟩ := h
  refine ⟨l, rfl, m, rfl, (by show 2 ≤ sizeLine; decide), fun p hp => ⟨p, rfl, ⟨[l, m], SqT.of upd_same⟩, ?_⟩⟩
  have sm1 : Same H (upd H p (.tup [l, m])) := fun b o e => (upd_ne (ne_of_none e hp)).trans e
  generalize hH1 : upd H p (.tup [l, m]) = H1 at sm1 ⊢
  have sqp : SqT K H1 p [l, m] := SqT.of (by rw [← hH1]; exact upd_same)
  -- one bound that is right, one that is wrong
  have good : ∀ {x : V} {o : Option Kn} {σ : L2.St} (D : Ends), Bnd K H x o → 2 < σ.length → D.nx (σ.set 2 (some x)) H1 →
      (tIfS (tB (tNotN (tVar 2))) (tDrop (tHas (spReq K) E (tCons (tVar 2) tNil))) tNext) D (σ.set 2 (some x)) H1 := fun {x o σ} D hx hl hN => by
    have e2 : (σ.set 2 (some x))[2]? = some (some x) := List.getElem?_set_self hl
    rcases hx with ⟨rfl, _⟩ | ⟨k, hk, _⟩
    · exact ⟨_, e2, _, rfl, iteF hN⟩
    · obtain ⟨q, rfl, hs⟩ := id hk
      exact ⟨_, e2, _, rfl, iteT ⟨_, e2, _, rfl, .inl ⟨k, hk.same sm1, hN⟩⟩⟩
  have wrong : ∀ {x : V} {σ : L2.St} (D : Ends), NotKind H x → x ≠ .non → 2 < σ.length → E (CI K) none H1 →
      (tIfS (tB (tNotN (tVar 2))) (tDrop (tHas (spReq K) E (tCons (tVar 2) tNil))) tNext) D (σ.set 2 (some x)) H1 := fun {x σ} D hx hn hl hE => by
    have e2 : (σ.set 2 (some x))[2]? = some (some x) := List.getElem?_set_self hl
    refine ⟨_, e2, true, ?_, iteT ⟨_, e2, _, rfl, .inr ⟨hx.same sm1, hE⟩⟩⟩
    show V.bl (!decide (x = V.non)) = V.bl true
    rw [decide_eq_false hn]
    rfl
  rcases h with ⟨ol, om, hl, hm, hY, hQ⟩ | ⟨hb, hE⟩
  · refine for_tup (K := K) (a := p) (xs := [l, m]) (fun i σ H' => H' = H1 ∧ ∃ o, σ = [some l, some m, o, none, none, none, none, none]) ⟨rfl, none, rfl⟩ (fun i σ H' _ ⟨e, _⟩ => by rw [e]; exact sqp) (fun i x σ H' hx ⟨e, o, es⟩ => ?_) fun σ H' ⟨e, o, es⟩ => ?_
    · subst e es
      have hb : ∃ o, Bnd K H x o := by
        match i, hx with
        | 0, hx => exact ⟨ol, by rw [← Option.some.inj (show some l = some x from hx)]; exact hl⟩
        | 1, hx => exact ⟨om, by rw [← Option.some.inj (show some m = some x from hx)]; exact hm⟩
        | n + 2, hx => simp at hx
      obtain ⟨o', hb⟩ := hb
      exact good (σ := [some l, some m, o, none, none, none, none, none]) _ hb (by show 2 < 8; decide) ⟨rfl, some x, rfl⟩
    · subst e es
      intro H2 pe ev sm2 hpe hev kev
      refine ⟨_, rfl, pe, ev, rfl, SqL.of hev, kev, fun ps zs hps kzs => ⟨ps, rfl, ⟨zs, SqL.of upd_same⟩, ?_⟩⟩
      have sm3 : Same H2 (upd H2 ps (.lst zs)) := fun b o e => (upd_ne (ne_of_none e hps)).trans e
      have smA : Same H (upd H2 ps (.lst zs)) := (sm1.trans sm2).trans sm3
      have hl3 := hl.tk (.same smA)
      have hm3 := hm.tk (.same smA)
      have kz3 := kzs.same sm3
      have sqz : SqL K (upd H2 ps (.lst zs)) ps zs := SqL.of upd_same
      generalize upd H2 ps (.lst zs) = H3 at smA hl3 hm3 kz3 sqz ⊢
      refine jfor_list (K := K) (a := ps) (xs := zs) (fun i ys σ H' => H' = H3 ∧ (∃ o o2, σ = [some l, some m, o, some (.ref pe), o2, none, none, none]) ∧ Ks K H3 ys ((allK.take i).filter (okB ol om))) ⟨rfl, ⟨_, _, rfl⟩, .nil⟩ (fun i ys σ H' _ ⟨e, _⟩ => by rw [e]; exact sqz) (fun i x ys σ H' hx ⟨e, ⟨o, o2, es⟩, ky⟩ => ?_) fun ys σ H' ⟨e, _, ky⟩ => ?_
      · subst e es
        obtain ⟨k, hk, kx⟩ := kz3.at hx
        -- the test
        have test : ∀ (R : Bool → Hp → Prop), R (okB ol om k) H' → (tAnd (tOr (tB (tIsN (tVar 0))) (tB (tHas (spLoose K) E (tCons (tVar 4) (tCons (tVar 0) tNil))))) (tOr (tB (tIsN (tVar 1))) (tB (tHas (spLoose K) E (tCons (tVar 1) (tCons (tVar 4) tNil)))))) [some l, some m, o, some (.ref pe), some x, none, none, none] H' R := fun R hR => by
          have second : ∀ b : Bool, (b = true → R (okM' om k) H') → (b = false → R false H') → (if b = true then (tOr (tB (tIsN (tVar 1))) (tB (tHas (spLoose K) E (tCons (tVar 1) (tCons (tVar 4) tNil))))) [some l, some m, o, some (.ref pe), some x, none, none, none] H' R else R false H') := fun b h1 h2 => by
            refine ite2b (fun e => ?_) h2
            have h1 := h1 e
            rcases hm3 with ⟨em, eo⟩ | ⟨k2, hk2, eo⟩
            · subst em eo
              exact ⟨_, rfl, true, rfl, iteT h1⟩
            · subst eo
              obtain ⟨q, em, hs⟩ := id hk2
              subst em
              exact ⟨_, rfl, false, rfl, iteF ⟨_, rfl, _, rfl, _, _, rfl, .inl ⟨k2, k, hk2, kx, _, rfl, h1⟩⟩⟩
          rcases hl3 with ⟨em, eo⟩ | ⟨k1, hk1, eo⟩
          · subst em eo
            exact ⟨_, rfl, true, rfl, iteT (second true (fun _ => by simpa [okB, okL'] using hR) fun z => nomatch z)⟩
          · subst eo
            obtain ⟨q, em, hs⟩ := id hk1
            subst em
            refine ⟨_, rfl, false, rfl, iteF ⟨_, rfl, _, rfl, _, _, rfl, .inl ⟨k, k1, kx, hk1, _, rfl, second (loose k k1) (fun z => ?_) fun z => ?_⟩⟩⟩
            · simpa [okB, okL', z] using hR
            · simpa [okB, okL', z] using hR
        refine test _ (ite2b (fun eb => ?_) fun eb => ?_)
        · obtain ⟨f1, f2⟩ := filter_at hk eb
          refine ⟨Nat.lt_of_le_of_lt (m := 27) ?_ (by decide), _, rfl, hY H' ys x _ k smA (by rw [show res ol om = allK.filter (okB ol om) from rfl, f2]; exact ky) f1 kx, ?_⟩
          · rw [ky.len]
            have q := List.length_filter_le (okB ol om) (allK.take i)
            rw [List.length_take, allK_len] at q
            omega
          · refine ⟨rfl, ⟨o, some x, rfl⟩, ?_⟩
            rw [take_snoc hk, List.filter_append, List.filter_cons_of_pos eb]
            exact ky.append (.cons kx .nil)
        · refine ⟨rfl, ⟨o, some x, rfl⟩, ?_⟩
          rw [take_snoc hk, List.filter_append, List.filter_cons_of_neg (by rw [eb]; exact Bool.false_ne_true), List.filter_nil, List.append_nil]
          exact ky
      · subst e
        have ez : allK.take zs.length = allK := by
          rw [kz3.len]
          exact List.take_length
        rw [ez] at ky
        exact hQ H' ys smA ky
  · rcases hb with ⟨hl, nl⟩ | ⟨⟨ol, hl⟩, hm, nm⟩
    · refine for_tup (K := K) (a := p) (xs := [l, m]) (fun i σ H' => i = 0 ∧ H' = H1 ∧ σ = [some l, some m, none, none, none, none, none, none]) ⟨rfl, rfl, rfl⟩ (fun i σ H' _ ⟨_, e, _⟩ => by rw [e]; exact sqp) (fun i x σ H' hx ⟨ei, e, es⟩ => ?_) fun σ H' ⟨ei, _⟩ => absurd ei (by simp)
      subst ei e es
      obtain rfl : l = x := Option.some.inj (show some l = some x from hx)
      exact wrong (σ := [some l, some m, none, none, none, none, none, none]) _ hl nl (by show 2 < 8; decide) (hE H' sm1)
    · refine for_tup (K := K) (a := p) (xs := [l, m]) (fun i σ H' => i ≤ 1 ∧ H' = H1 ∧ ∃ o, σ = [some l, some m, o, none, none, none, none, none]) ⟨by decide, rfl, none, rfl⟩ (fun i σ H' _ ⟨_, e, _⟩ => by rw [e]; exact sqp) (fun i x σ H' hx ⟨ei, e, o, es⟩ => ?_) fun σ H' ⟨ei, _⟩ => absurd ei (by simp)
      subst e es
      match i, hx with
      | 0, hx =>
        obtain rfl : l = x := Option.some.inj (show some l = some x from hx)
        exact good (σ := [some l, some m, o, none, none, none, none, none]) _ hl (by show 2 < 8; decide) ⟨by decide, rfl, _, rfl⟩
      | 1, hx =>
        obtain rfl : m = x := Option.some.inj (show some m = some x from hx)
        exact wrong (σ := [some l, some m, o, none, none, none, none, none]) _ hm nm (by show 2 < 8; decide) (hE H' sm1)
      | n + 2, hx => simp at hx
end
end Kd
/-! K7: list(kinds(..)) -/
namespace Kd
open PySem PySem.Spec PyProof.Rows L2 GenW
def swp {α : Type} : List α → List α
  | [a, b] => [b, a]
  | l => l
abbrev Bd (K : PySem.W.Frag) (fd : FuncData) (ks : List Str) (gV : List V → List V → List V) : Prop := ∃ g, KBn K fd ["least", "most"] 0 ks g gV
abbrev FnG (K : PySem.W.Frag) (fd : FuncData) : Prop := FunD K "kinds" "kinds" (defArgs (top 10)) (defBody (top 10)) (defScope (top 10)) [] [("least", .non), ("most", .non)] (He.ga K "kinds") fd
section
variable {K : PySem.W.Frag} {fd : FuncData}
theorem bd_L (F : FnG K fd) : Bd K fd ["least"] (fun _ zs => zs ++ [.non]) := by
  obtain ⟨mv, h⟩ := FunD.kbinds0 (ps := ["least", "most"]) F 0 ["least"] [("most", .non)] (fun _ mv ws => ws ++ mv) (by simp) (fun q hq => by simp at hq; simp [hq]) (fun _ r2 r3 => r3.append r2)
    fun D doc pm an cdv ct us mv ws l1 l2 l3 => match us, mv, ws, l1, l2, l3 with | [], [a], [b], _, _, _ => ⟨_, _, _, _, _, _, rfl, rfl, rfl⟩
  exact ⟨_, h⟩
theorem bd_M (F : FnG K fd) : Bd K fd ["most"] (fun _ zs => .non :: zs) := by
  obtain ⟨mv, h⟩ := FunD.kbinds0 (ps := ["least", "most"]) F 0 ["most"] [("least", .non)] (fun _ mv ws => mv ++ ws) (by simp) (fun q hq => by simp at hq; simp [hq]) (fun _ r2 r3 => r2.append r3)
    fun D doc pm an cdv ct us mv ws l1 l2 l3 => match us, mv, ws, l1, l2, l3 with | [], [a], [b], _, _, _ => ⟨_, _, _, _, _, _, rfl, rfl, rfl⟩
  exact ⟨_, h⟩
theorem bd_LM (F : FnG K fd) : Bd K fd ["least", "most"] (fun _ zs => zs) := by
  obtain ⟨mv, h⟩ := FunD.kbinds0 (ps := ["least", "most"]) F 0 ["least", "most"] [] (fun _ _ ws => ws) (by simp) (fun q hq => by simp at hq) (fun _ _ r3 => r3)
    fun D doc pm an cdv ct us mv ws l1 l2 l3 => match us, mv, ws, l1, l2, l3 with | [], [], [a, b], _, _, _ => rfl
  exact ⟨_, h⟩
theorem swp_vals {xs : List V} {us : List Value} (r : Vals xs us) : Vals (swp xs) (swp us) := by
  match xs, us, r with
  | [], [], .nil => exact .nil
  | [a], [b], r => exact r
  | [a, b], [c, d], .cons r1 (.cons r2 .nil) => exact .cons r2 (.cons r1 .nil)
  | a :: b :: c :: r, a' :: b' :: c' :: r', q => exact q
theorem bd_ML (F : FnG K fd) : Bd K fd ["most", "least"] (fun _ zs => swp zs) := by
  obtain ⟨mv, h⟩ := FunD.kbinds0 (ps := ["least", "most"]) F 0 ["most", "least"] [] (fun _ _ ws => swp ws) (by simp) (fun q hq => by simp at hq) (fun _ _ r3 => swp_vals r3)
    fun D doc pm an cdv ct us mv ws l1 l2 l3 => match us, mv, ws, l1, l2, l3 with | [], [], [a, b], _, _, _ => rfl
  exact ⟨_, h⟩
end
/-- the generator, by its name -/
def HasG (P : Program) (w : World) (K : PySem.W.Frag) (mg : Str → Option Value) (base : Heap) : Prop :=
  ∃ fd, JFn P w K mg base 4 (He.ga K "kinds") fd ["least", "most"] (spKinds K) ∧ PySem.W.keepIn K (.ref (He.ga K "kinds")) = true ∧ mg "kinds" = some (.ref (He.ga K "kinds")) ∧ FnG K fd
/-- list(kinds(least=l, most=m)) -/
def KList (K : PySem.W.Frag) (l m : V) (E : XK) (H : Hp) (Q : VK) : Prop :=
  (∃ ol om, Bnd K H l ol ∧ Bnd K H m om ∧ ∀ H' p ys, Same H H' → H p = none → H' p = some (.lst ys) → Ks K H' ys (res ol om) → Q (.ref p) H') ∨
  (((NotKind H l ∧ l ≠ .non) ∨ ((∃ ol, Bnd K H l ol) ∧ NotKind H m ∧ m ≠ .non)) ∧ ∀ H', Same H H' → E (CI K) none H')
theorem KList.sp {K : PySem.W.Frag} {l m : V} {E : XK} {H : Hp} {Q : VK} (h : KList K l m E H Q) : ∃ Yd, spKinds K [l, m] H Yd (fun out H2 => ∀ p, H2 p = none → Q (.ref p) (upd H2 p (.lst out))) E := by
  rcases h with ⟨ol, om, a, b, c⟩ | h
  · refine ⟨fun _ _ _ => True, l, m, rfl, .inl ⟨ol, om, a, b, fun _ _ _ _ _ _ _ _ _ => trivial, fun H' ys sm ks p hp => ?_⟩⟩
    have sm2 : Same H' (upd H' p (.lst ys)) := fun b o e => (upd_ne (ne_of_none e hp)).trans e
    exact c _ p ys (sm.trans sm2) (sm.free hp) upd_same (ks.same sm2)
  · exact ⟨fun _ _ _ => True, l, m, rfl, .inr h⟩
theorem KList.spT {K : PySem.W.Frag} {l m : V} {E : XK} {H : Hp} {Q : VK} (h : KList K l m E H Q) : spKinds K [l, m] H (fun _ _ _ => True) (fun out H2 => ∀ p, H2 p = none → Q (.ref p) (upd H2 p (.lst out))) E := by
  rcases h with ⟨ol, om, a, b, c⟩ | h
  · refine ⟨l, m, rfl, .inl ⟨ol, om, a, b, fun _ _ _ _ _ _ _ _ _ => trivial, fun H' ys sm ks p hp => ?_⟩⟩
    have sm2 : Same H' (upd H' p (.lst ys)) := fun b o e => (upd_ne (ne_of_none e hp)).trans e
    exact c _ p ys (sm.trans sm2) (sm.free hp) upd_same (ks.same sm2)
  · exact ⟨l, m, rfl, .inr h⟩
section
variable {X : Cx} {k i j : Nat} {E : XK} {p1 p2 pos pos2 kp kp2 : Pos} {e e2 : Expr}
theorem pe_lkL (G : HasG X.prog X.w X.K X.mg X.base) (hr : Room k X.A) (hx : Passes (L2.CX X.prog X.w) X E) (hns : NoStop X.K E) (hl : X.mg "list" = none) (he : PE X e (tVar i)) (gl : Gl X "list" := by rfl) (gk : Gl X "kinds" := by rfl) (hk : 7 ≤ k := by decide) :
    PE X (.Call (.Name "list" p1) [.Call (.Name "kinds" p2) [] [⟨some "least", e, kp⟩] pos2] [] pos) (fun σ H Q => ∃ v, σ[i]? = some (some v) ∧ KList X.K v .non E H Q) := by
  obtain ⟨fd, J, kp', gm, F⟩ := G
  obtain ⟨g, hb⟩ := bd_L F
  have q := pe_listG (p := p1) (pos := pos) (pmd_callK (p := p2) (pos := pos2) J (hr.mono (by omega)) gk gm kp' hb (pk_cons (nm := some "least") (kpos := kp) he pk_nil) (E := E)).gen hx hns (hr.mono hk) gl hl PyProof.Rows.boot_list
  exact ⟨fun pins s σ H Q I ⟨v, hv, h⟩ => q.run pins s σ H Q I ⟨fun _ _ _ => True, v, hv, rfl, h.spT⟩⟩
theorem pe_lkM (G : HasG X.prog X.w X.K X.mg X.base) (hr : Room k X.A) (hx : Passes (L2.CX X.prog X.w) X E) (hns : NoStop X.K E) (hl : X.mg "list" = none) (he : PE X e (tVar i)) (gl : Gl X "list" := by rfl) (gk : Gl X "kinds" := by rfl) (hk : 7 ≤ k := by decide) :
    PE X (.Call (.Name "list" p1) [.Call (.Name "kinds" p2) [] [⟨some "most", e, kp⟩] pos2] [] pos) (fun σ H Q => ∃ v, σ[i]? = some (some v) ∧ KList X.K .non v E H Q) := by
  obtain ⟨fd, J, kp', gm, F⟩ := G
  obtain ⟨g, hb⟩ := bd_M F
  have q := pe_listG (p := p1) (pos := pos) (pmd_callK (p := p2) (pos := pos2) J (hr.mono (by omega)) gk gm kp' hb (pk_cons (nm := some "most") (kpos := kp) he pk_nil) (E := E)).gen hx hns (hr.mono hk) gl hl PyProof.Rows.boot_list
  exact ⟨fun pins s σ H Q I ⟨v, hv, h⟩ => q.run pins s σ H Q I ⟨fun _ _ _ => True, v, hv, rfl, h.spT⟩⟩
theorem pe_lkLM (G : HasG X.prog X.w X.K X.mg X.base) (hr : Room k X.A) (hx : Passes (L2.CX X.prog X.w) X E) (hns : NoStop X.K E) (hl : X.mg "list" = none) (he : PE X e (tVar i)) (he2 : PE X e2 (tVar j)) (gl : Gl X "list" := by rfl) (gk : Gl X "kinds" := by rfl) (hk : 7 ≤ k := by decide) :
    PE X (.Call (.Name "list" p1) [.Call (.Name "kinds" p2) [] [⟨some "least", e, kp⟩, ⟨some "most", e2, kp2⟩] pos2] [] pos) (fun σ H Q => ∃ v, σ[i]? = some (some v) ∧ ∃ u, σ[j]? = some (some u) ∧ KList X.K v u E H Q) := by
  obtain ⟨fd, J, kp', gm, F⟩ := G
  obtain ⟨g, hb⟩ := bd_LM F
  have q := pe_listG (p := p1) (pos := pos) (pmd_callK (p := p2) (pos := pos2) J (hr.mono (by omega)) gk gm kp' hb (pk_cons (nm := some "least") (kpos := kp) he (pk_cons (nm := some "most") (kpos := kp2) he2 pk_nil)) (E := E)).gen hx hns (hr.mono hk) gl hl PyProof.Rows.boot_list
  exact ⟨fun pins s σ H Q I ⟨v, hv, u, hu, h⟩ => q.run pins s σ H Q I ⟨fun _ _ _ => True, v, hv, u, hu, rfl, h.spT⟩⟩
theorem pe_lkML (G : HasG X.prog X.w X.K X.mg X.base) (hr : Room k X.A) (hx : Passes (L2.CX X.prog X.w) X E) (hns : NoStop X.K E) (hl : X.mg "list" = none) (he : PE X e (tVar i)) (he2 : PE X e2 (tVar j)) (gl : Gl X "list" := by rfl) (gk : Gl X "kinds" := by rfl) (hk : 7 ≤ k := by decide) :
    PE X (.Call (.Name "list" p1) [.Call (.Name "kinds" p2) [] [⟨some "most", e, kp⟩, ⟨some "least", e2, kp2⟩] pos2] [] pos) (fun σ H Q => ∃ v, σ[i]? = some (some v) ∧ ∃ u, σ[j]? = some (some u) ∧ KList X.K u v E H Q) := by
  obtain ⟨fd, J, kp', gm, F⟩ := G
  obtain ⟨g, hb⟩ := bd_ML F
  have q := pe_listG (p := p1) (pos := pos) (pmd_callK (p := p2) (pos := pos2) J (hr.mono (by omega)) gk gm kp' hb (pk_cons (nm := some "most") (kpos := kp) he (pk_cons (nm := some "least") (kpos := kp2) he2 pk_nil)) (E := E)).gen hx hns (hr.mono hk) gl hl PyProof.Rows.boot_list
  exact ⟨fun pins s σ H Q I ⟨v, hv, u, hu, h⟩ => q.run pins s σ H Q I ⟨fun _ _ _ => True, v, hv, u, hu, rfl, h.spT⟩⟩
end
/-! ### _law_ups -/
def spUps (K : PySem.W.Frag) : Sp := fun vs H Q _ => ∃ v k, vs = [v] ∧ KindAt K H v k ∧ ∀ H' p ys, Same H H' → H p = none → H' p = some (.lst ys) → Ks K H' ys (res (some k) none) → Q (.ref p) H'
section
variable {P : Program} {w : World} {K : PySem.W.Frag} {mg : Str → Option Value} {base : Heap}
theorem E0_stop : NoStop K E0 := fun _ _ _ z => z.elim
theorem scUps : FnScope ["_law_kind_here"] ["_law_kind_here"] (defScope (top 20)) := ⟨rfl, rfl, rfl, by decide +kernel, rfl, by decide +kernel, by decide +kernel⟩
theorem ok_ups {fd : FuncData} (T : Tx K mg) (F : FnT K "_law_ups" 20 fd) (G : HasG P w K mg base) : FnOk P w K mg base CX0 8 (He.ga K "_law_ups") fd ["_law_kind_here"] (spUps K) := by
  refine F.ok scUps (fun vs H Q E h => ?_) (fun cdv A outer s H vs Q E hr h => ⟨_, PSs.nox (pss_one (ps_ret (pe_lkL (E := E0) G hr passL E0_stop (T.fre "list" (by decide)) (pv 0)))), ?_⟩)
  · obtain ⟨v, k, rfl, _⟩ := h
    rfl
  obtain ⟨v, k, rfl, hk, q⟩ := h
  exact ⟨_, rfl, .inl ⟨some k, none, .inr ⟨k, hk, rfl⟩, .inl ⟨rfl, rfl⟩, q⟩⟩
theorem has_ups {fd : FuncData} (T : Tx K mg) (F : FnT K "_law_ups" 20 fd) (G : HasG P w K mg base) : Has P w K mg base CX0 8 "_law_ups" ["_law_kind_here"] (spUps K) :=
  FunD.has T F (ok_ups T F G) (by decide) fun _ _ _ _ _ _ us hl => match us, hl with | [_], _ => rfl
end
end Kd
/-! K9: the dice -/
namespace Kd
open PySem PySem.Spec PyProof.Rows L2
theorem op_powW {X : Cx} : OpR X (binaryOp .Pow) (rI (fun i j => i = 10 ^ 50 ∧ j = 12) fun i j => .int (i ^ j.toNat)) := opI fun i j _ _ _ _ _ hc q => by
  obtain ⟨e1, e2⟩ := hc
  subst e1 e2
  exact pow_int (by decide) (by decide +kernel) q
/-- the dice: a list of three ints -/
def Dice (H : Hp) (d : Addr) : Prop := ∃ x y z : Int, H d = some (.lst [.int x, .int y, .int z])
structure DStep (d : Addr) (H H' : Hp) : Prop where
  off : ∀ b o, b ≠ d → H b = some o → H' b = some o
  dice : Dice H' d
section
variable {K : PySem.W.Frag} {H H' H1 : Hp} {d : Addr}
theorem DStep.refl (h : Dice H d) : DStep d H H := ⟨fun _ _ _ h => h, h⟩
theorem DStep.trans (a : DStep d H H1) (b : DStep d H1 H') : DStep d H H' := ⟨fun c o n h => b.off c o n (a.off c o n h), b.dice⟩
theorem DStep.same (h : Dice H d) (e : Same H H') : DStep d H H' := ⟨fun b o _ q => e b o q, by
  obtain ⟨x, y, z, q⟩ := h
  exact ⟨x, y, z, e d _ q⟩⟩
theorem DStep.at {b : Addr} {o : HO} (s : DStep d H H') (h : H b = some o) (n : ∀ xs, o ≠ .lst xs) (hd : Dice H d) : H' b = some o := s.off b o (fun e => by
  subst e
  obtain ⟨x, y, z, q⟩ := hd
  rw [q] at h
  exact n _ (Option.some.inj h).symm) h
theorem DStep.tk (s : DStep d H H') (hd : Dice H d) : Tk H H' := ⟨fun b xs h => s.at h (fun _ z => nomatch z) hd, fun b o u h => s.at h (fun _ z => nomatch z) hd⟩
theorem DStep.sql {l : Addr} {xs : List V} (s : DStep d H H') (hd : Dice H d) (n : l ≠ d) (h : SqL K H l xs) : SqL K H' l xs := by
  rcases h with (h | ⟨o, h⟩) | h
  · exact .inl (.inl (s.off l _ n h))
  · exact .inl (.inr ⟨o, (s.tk hd).frz l o _ h⟩)
  · exact .inr h
theorem DStep.new {p : Addr} {o : HO} (s : DStep d H H') (hn : H' p = none) : DStep d H (upd H' p o) := by
  refine s.trans (.same s.dice fun b u e => ?_)
  rw [upd_ne (ne_of_none e hn)]
  exact e
end
def spDice (K : PySem.W.Frag) : Sp := fun vs H Q _ => ∃ (a : Addr) (ns : List Int) (i : Nat), vs = [.ref a, .int i] ∧ SqL K H a (ns.map V.int) ∧ ∀ p H', Same H H' → H p = none → Dice H' p → Q (.ref p) H'
def spRoll : Sp := fun vs H Q _ => ∃ (d : Addr) (c : Nat), vs = [.ref d, .int c] ∧ Dice H d ∧ 1 ≤ c ∧ c ≤ 64 ∧ ∀ (r : Nat) H', DStep d H H' → r < c → Q (.int r) H'
def spPick (K : PySem.W.Frag) : Sp := fun vs H Q _ => ∃ (d l : Addr) (xs : List V), vs = [.ref d, .ref l] ∧ Dice H d ∧ l ≠ d ∧ SqL K H l xs ∧ 1 ≤ xs.length ∧ xs.length ≤ 64 ∧ ∀ x H', x ∈ xs → DStep d H H' → Q x H'
section
variable {P : Program} {w : World} {K : PySem.W.Frag} {mg : Str → Option Value} {base : Heap}
theorem scDice : FnScope ["_law_script", "_law_spot", "_law_cell", "_law_whole", "_law_seed"] ["_law_script", "_law_spot"] (defScope (top 12)) := ⟨rfl, rfl, rfl, by decide +kernel, rfl, by decide +kernel, by decide +kernel⟩
theorem ok_dice {fd : FuncData} (T : Tx K mg) (F : FnT K "_law_dice" 12 fd) : FnOk P w K mg base CX0 1 (He.ga K "_law_dice") fd ["_law_script", "_law_spot"] (spDice K) := by
  have gl : mg "len" = none := T.fre _ (by decide)
  have gi : mg "int" = none := T.fre _ (by decide)
  have ga : mg "abs" = none := T.fre _ (by decide)
  have gm : mg "max" = none := T.fre _ (by decide)
  refine F.ok scDice (fun vs H Q E h => ?_) (fun cdv A outer s H vs Q E hr h => ⟨_, PSs.nox (
    pss_cons (ps_set (i := 2) scDice.nd rfl (.inl rfl) (pe_ifExp (pt_cmpR op_lt (pv 1) (pe_callB call_len_seq rfl gl boot_len (pa_cons (pv 0) pa_nil)) (nomark _)) (pe_ix ix_list (pv 0) (pv 1) (fun _ _ => rfl)) (pe_op op_add (pe_op op_mul pe_int (pv 1)) pe_int)))
    (pss_cons (ps_set (i := 3) scDice.nd rfl (.inl rfl) (pe_op op_modN (pe_callTy call_int1 rfl gi PyProof.Rows.boot_int (pa_cons (pe_callB call_abs rfl ga boot_abs (pa_cons (pv 2) pa_nil)) pa_nil)) (pe_op op_powW (pe_op op_pow pe_int pe_int) pe_int)))
    (pss_cons (ps_set (i := 4) scDice.nd rfl (.inl rfl) (pe_op op_add (pe_op op_add (pe_op op_add (pe_op op_mul (pe_op op_modN (pe_callTy call_int1 rfl gi PyProof.Rows.boot_int (pa_cons (pv 3) pa_nil)) pe_int) pe_int) (pe_op op_mul pe_int (pv 1)))
        (pe_op op_mul pe_int (pe_callTy call_int1 rfl gi PyProof.Rows.boot_int (pa_cons (pe_cmpR op_lt (pv 2) pe_int (nomark _)) pa_nil)))) pe_int))
    (pss_one (ps_ret (pe_lst (pa_cons (pe_callB (call_max2 rfl) rfl gm boot_max (pa_cons pe_int (pa_cons (pe_op op_sub (pv 3) (pe_op op_pow pe_int pe_int)) pa_nil))) (pa_cons (pe_op op_modN (pe_callTy call_int1 rfl gi PyProof.Rows.boot_int (pa_cons (pv 4) pa_nil)) pe_int) (pa_cons pe_int pa_nil)))))))))
    , ?_⟩)
  · obtain ⟨a, ns, i, rfl, _⟩ := h
    rfl
  obtain ⟨a, ns, i, rfl, hs, q⟩ := h
  have nz : ((10 : Int) ^ 50) ^ (12 : Int).toNat ≠ 0 := by decide +kernel
  have fin : ∀ (G : TE) (u v : Int), True := fun _ _ _ => trivial
  refine ⟨_, rfl, _, rfl, a, _, rfl, .inl hs, ?_⟩
  refine ⟨_, _, rfl, rfl, _, rfl, ite2b (fun e => ?_) fun e => ?_⟩
  · have hi : i < ns.length := by
      have z := of_decide_eq_true e
      simp only [List.length_map] at z
      omega
    refine ⟨_, rfl, _, rfl, a, _, _, .int ns[i], rfl, rfl, hs, atI_nat (by simp [hi]), ?_⟩
    refine ⟨_, rfl, ns[i], rfl, .inl ⟨_, rfl, _, _, rfl, rfl, ⟨by decide, by decide, by decide⟩, _, _, rfl, rfl, ⟨rfl, rfl⟩, _, _, rfl, rfl, nz, ?_⟩⟩
    refine ⟨_, rfl, .inl ⟨_, rfl, _, _, rfl, rfl, (by show (4611686018427387847 : Int) ≠ 0; decide), _, _, rfl, rfl, .inr ⟨by decide, by decide⟩, _, rfl, _, _, rfl, rfl, .inl ⟨by decide, by decide⟩, _, _, rfl, rfl, ?_⟩⟩
    refine ⟨_, rfl, _, _, rfl, rfl, .inr ⟨_, rfl, _, _, rfl, rfl, .inl ⟨by decide, by decide⟩, _, _, rfl, rfl, _, _, rfl, rfl, ?_⟩⟩
    refine ⟨_, rfl, _, _, rfl, rfl, ⟨by decide, by decide, by decide⟩, _, _, rfl, rfl, _, _, rfl, ?_⟩
    refine ⟨_, rfl, .inl ⟨_, rfl, _, _, rfl, rfl, (by show (2305843009213693921 : Int) ≠ 0; decide), ?_⟩⟩
    refine ⟨by show 3 ≤ sizeLine; decide, fun p hp => q p _ (fun b o e => (upd_ne (ne_of_none e hp)).trans e) hp ⟨_, _, _, upd_same⟩⟩
  · refine ⟨_, rfl, _, _, rfl, rfl, .inl ⟨by decide, by decide⟩, _, _, rfl, rfl, ?_⟩
    refine ⟨_, rfl, _, rfl, .inl ⟨_, rfl, _, _, rfl, rfl, ⟨by decide, by decide, by decide⟩, _, _, rfl, rfl, ⟨rfl, rfl⟩, _, _, rfl, rfl, nz, ?_⟩⟩
    refine ⟨_, rfl, .inl ⟨_, rfl, _, _, rfl, rfl, (by show (4611686018427387847 : Int) ≠ 0; decide), _, _, rfl, rfl, .inr ⟨by decide, by decide⟩, _, rfl, _, _, rfl, rfl, .inl ⟨by decide, by decide⟩, _, _, rfl, rfl, ?_⟩⟩
    refine ⟨_, rfl, _, _, rfl, rfl, .inr ⟨_, rfl, _, _, rfl, rfl, .inl ⟨by decide, by decide⟩, _, _, rfl, rfl, _, _, rfl, rfl, ?_⟩⟩
    refine ⟨_, rfl, _, _, rfl, rfl, ⟨by decide, by decide, by decide⟩, _, _, rfl, rfl, _, _, rfl, ?_⟩
    refine ⟨_, rfl, .inl ⟨_, rfl, _, _, rfl, rfl, (by show (2305843009213693921 : Int) ≠ 0; decide), ?_⟩⟩
    refine ⟨by show 3 ≤ sizeLine; decide, fun p hp => q p _ (fun b o e => (upd_ne (ne_of_none e hp)).trans e) hp ⟨_, _, _, upd_same⟩⟩
theorem has_dice {fd : FuncData} (T : Tx K mg) (F : FnT K "_law_dice" 12 fd) : Has P w K mg base CX0 1 "_law_dice" ["_law_script", "_law_spot"] (spDice K) :=
  FunD.has T F (ok_dice T F) (by decide) fun _ _ _ _ _ _ us hl => match us, hl with | [_, _], _ => rfl
theorem scRoll : FnScope ["_law_dice_here", "_law_count", "_law_digit", "_law_one", "_law_two"] ["_law_dice_here", "_law_count"] (defScope (top 13)) := ⟨rfl, rfl, rfl, by decide +kernel, rfl, by decide +kernel, by decide +kernel⟩
theorem fmod_nat (i : Int) {c : Nat} (h : 1 ≤ c) : ∃ r : Nat, i.fmod c = (r : Int) ∧ r < c := by
  have h0 : (0 : Int) < c := by omega
  have h1 := Int.fmod_nonneg_of_pos i h0
  have h2 := Int.fmod_lt_of_pos i h0
  exact ⟨(i.fmod c).toNat, by omega, by omega⟩
theorem dice_set {H : Hp} {d : Addr} {x y z : Int} (o : HO) (h : H d = some (.lst [.int x, .int y, .int z])) {x' y' z' : Int} (e : o = .lst [.int x', .int y', .int z']) : DStep d H (upd H d o) := by
  subst e
  exact ⟨fun b u n q => by rw [upd_ne n]; exact q, _, _, _, upd_same⟩
theorem ok_roll {fd : FuncData} (T : Tx K mg) (F : FnT K "_law_roll" 13 fd) : FnOk P w K mg base CX0 1 (He.ga K "_law_roll") fd ["_law_dice_here", "_law_count"] spRoll := by
  have gi : mg "int" = none := T.fre _ (by decide)
  refine F.ok scRoll (fun vs H Q E h => ?_) (fun cdv A outer s H vs Q E hr h => ⟨_, PSs.nox (
    pss_cons (ps_if (pt_cmpR op_gt (pe_ix ix_list (pv 0) pe_int (fun _ _ => rfl)) pe_int (nomark _))
      (pss_cons (ps_set (i := 2) scRoll.nd rfl (.inl rfl) (pe_op op_modN (pe_callTy call_int1 rfl gi PyProof.Rows.boot_int (pa_cons (pe_ix ix_list (pv 0) pe_int (fun _ _ => rfl)) pa_nil)) (pv 1)))
      (pss_cons (ps_asg (pe_op op_fdivN (pe_ix ix_list (pv 0) pe_int (fun _ _ => rfl)) (pv 1)) (pg_sub (pv 0) pe_int set_list))
      (pss_one (ps_ret (pv 2))))) pss_nil)
    (pss_cons (ps_asg (pe_op op_add (pe_ix ix_list (pv 0) pe_int (fun _ _ => rfl)) pe_int) (pg_sub (pv 0) pe_int set_list))
    (pss_cons (ps_set (i := 3) scRoll.nd rfl (.inl rfl) (pe_op op_modN (pe_callTy call_int1 rfl gi PyProof.Rows.boot_int (pa_cons (pe_op op_add (pe_ix ix_list (pv 0) pe_int (fun _ _ => rfl)) (pe_op op_mul pe_int (pe_ix ix_list (pv 0) pe_int (fun _ _ => rfl)))) pa_nil)) pe_int))
    (pss_cons (ps_set (i := 4) scRoll.nd rfl (.inl rfl) (pe_op op_modN (pe_callTy call_int1 rfl gi PyProof.Rows.boot_int (pa_cons (pe_op op_add (pe_op op_mul (pv 3) (pv 3)) (pe_op op_mul pe_int (pe_ix ix_list (pv 0) pe_int (fun _ _ => rfl)))) pa_nil)) pe_int))
    (pss_one (ps_ret (pe_op op_modN (pe_callTy call_int1 rfl gi PyProof.Rows.boot_int (pa_cons (pe_op op_fdivN (pe_op op_modN (pe_callTy call_int1 rfl gi PyProof.Rows.boot_int (pa_cons (pe_op op_mul (pv 4) (pv 3)) pa_nil)) pe_int) pe_int) pa_nil)) (pv 1)))))))), ?_⟩)
  · obtain ⟨d, c, rfl, _⟩ := h
    rfl
  obtain ⟨d, c, rfl, ⟨x, y, z, hd⟩, c1, c64, q⟩ := h
  have cz : (c : Int) ≠ 0 := by omega
  refine ⟨_, rfl, d, _, 0, .int x, rfl, rfl, SqL.of hd, rfl, ?_⟩
  refine ⟨_, _, rfl, rfl, _, rfl, ite2b (fun e => ?_) fun e => ?_⟩
  · refine ⟨_, rfl, d, _, 0, .int x, rfl, rfl, SqL.of hd, rfl, .inl ⟨x, rfl, _, rfl, _, _, rfl, rfl, cz, ?_⟩⟩
    refine ⟨_, rfl, d, _, 0, .int x, rfl, rfl, SqL.of hd, rfl, _, rfl, _, _, rfl, rfl, ⟨cz, by omega⟩, ?_⟩
    refine ⟨_, rfl, d, _, 0, 0, rfl, rfl, hd, rfl, _, rfl, ?_⟩
    obtain ⟨r, er, hr'⟩ := fmod_nat x c1
    show Q (.int (x.fmod c)) _
    rw [er]
    exact q r _ (dice_set _ hd rfl) hr'
  · refine ⟨_, rfl, d, _, 2, .int z, rfl, rfl, SqL.of hd, rfl, _, _, rfl, rfl, ?_⟩
    refine ⟨_, rfl, d, _, 2, 2, rfl, rfl, hd, rfl, ?_⟩
    have st := dice_set (.lst [.int x, .int y, .int (z + 1)]) hd rfl
    have hd2 : upd H d (.lst [.int x, .int y, .int (z + 1)]) d = some (.lst [.int x, .int y, .int (z + 1)]) := upd_same
    show (fun H3 => _) (upd H d (.lst [.int x, .int y, .int (z + 1)]))
    generalize upd H d (.lst [.int x, .int y, .int (z + 1)]) = H2 at st hd2 ⊢
    refine ⟨_, rfl, d, _, 1, .int y, rfl, rfl, SqL.of hd2, rfl, _, rfl, d, _, 2, .int (z + 1), rfl, rfl, SqL.of hd2, rfl, _, _, rfl, rfl, .inl ⟨by decide, by decide⟩, _, _, rfl, rfl, .inl ⟨_, rfl, _, _, rfl, rfl, (by show (2305843009213693951 : Int) ≠ 0; decide), ?_⟩⟩
    obtain ⟨one, e1, l1⟩ := fmod_nat (y + 1442695041 * (z + 1)) (c := 2305843009213693951) (by decide)
    have e1' : (fun i j => V.int (i.fmod j)) (y + 1442695041 * (z + 1)) 2305843009213693951 = .int one := congrArg V.int e1
    rw [e1']
    refine ⟨_, rfl, _, rfl, _, _, rfl, rfl, .inl ⟨by omega, by omega⟩, _, rfl, d, _, 2, .int (z + 1), rfl, rfl, SqL.of hd2, rfl, _, _, rfl, rfl, .inl ⟨by decide, by decide⟩, _, _, rfl, rfl, .inl ⟨_, rfl, _, _, rfl, rfl, (by show (4611686018427387787 : Int) ≠ 0; decide), ?_⟩⟩
    obtain ⟨two, e2, l2⟩ := fmod_nat ((one : Int) * one + 40503 * (z + 1)) (c := 4611686018427387787) (by decide)
    have e2' : (fun i j => V.int (i.fmod j)) ((one : Int) * one + 40503 * (z + 1)) 4611686018427387787 = .int two := congrArg V.int e2
    rw [e2']
    refine ⟨_, rfl, _, rfl, _, _, rfl, rfl, .inl ⟨by omega, by omega⟩, .inl ⟨_, rfl, _, _, rfl, rfl, (by show (1125899906842679 : Int) ≠ 0; decide), _, _, rfl, rfl, ⟨by decide, by decide⟩, .inl ⟨_, rfl, _, rfl, _, _, rfl, rfl, cz, ?_⟩⟩⟩
    obtain ⟨r, er, hr'⟩ := fmod_nat (((two : Int) * one).fmod 1125899906842679 |>.fdiv 8192) c1
    show Q (.int ((((two : Int) * one).fmod 1125899906842679 |>.fdiv 8192).fmod c)) _
    rw [er]
    exact q r _ st hr'
theorem has_roll {fd : FuncData} (T : Tx K mg) (F : FnT K "_law_roll" 13 fd) : Has P w K mg base CX0 1 "_law_roll" ["_law_dice_here", "_law_count"] spRoll :=
  FunD.has T F (ok_roll T F) (by decide) fun _ _ _ _ _ _ us hl => match us, hl with | [_, _], _ => rfl
theorem scPick : FnScope ["_law_dice_here", "_law_items"] ["_law_dice_here", "_law_items"] (defScope (top 14)) := ⟨rfl, rfl, rfl, by decide +kernel, rfl, by decide +kernel, by decide +kernel⟩
theorem ok_pick {fd : FuncData} (T : Tx K mg) (F : FnT K "_law_pick" 14 fd) (h1 : Has P w K mg base CX0 1 "_law_roll" ["_law_dice_here", "_law_count"] spRoll) : FnOk P w K mg base CX0 2 (He.ga K "_law_pick") fd ["_law_dice_here", "_law_items"] (spPick K) := by
  have gl : mg "len" = none := T.fre _ (by decide)
  refine F.ok scPick (fun vs H Q E h => ?_) (fun cdv A outer s H vs Q E hr h => ⟨_, PSs.nox (
    pss_one (ps_ret (pe_ix ix_list (pv 1) (pe_has h1 hr pass0 (pa_cons (pv 0) (pa_cons (pe_callB call_len_seq rfl gl boot_len (pa_cons (pv 1) pa_nil)) pa_nil))) (fun _ _ => rfl)))), ?_⟩)
  · obtain ⟨d, l, xs, rfl, _⟩ := h
    rfl
  obtain ⟨d, l, xs, rfl, hd, nl, hl, c1, c2, q⟩ := h
  refine ⟨_, rfl, _, rfl, _, rfl, l, xs, rfl, .inl hl, d, xs.length, rfl, hd, c1, c2, fun r H' st hlt => ?_⟩
  refine ⟨l, xs, r, xs[r], rfl, rfl, st.sql hd nl hl, atI_nat (by simp [hlt]), ?_⟩
  exact q _ H' (List.getElem_mem hlt) st
theorem has_pick {fd : FuncData} (T : Tx K mg) (F : FnT K "_law_pick" 14 fd) (h1 : Has P w K mg base CX0 1 "_law_roll" ["_law_dice_here", "_law_count"] spRoll) : Has P w K mg base CX0 2 "_law_pick" ["_law_dice_here", "_law_items"] (spPick K) :=
  FunD.has T F (ok_pick T F h1) (by decide) fun _ _ _ _ _ _ us hl => match us, hl with | [_, _], _ => rfl
end
end Kd
/-! K10: odd things, the words, a kind, no kind -/
namespace Kd
open PySem PySem.Spec PyProof.Rows L2
theorem same_new {H : Hp} {p : Addr} {o : HO} (h : H p = none) : Same H (upd H p o) := fun b u e => (upd_ne (ne_of_none e h)).trans e
theorem NotKind.step {H H' : Hp} {d : Addr} {v : V} (h : NotKind H v) (hd : Dice H d) (s : DStep d H H') : NotKind H' v := by
  have tk := s.tk hd
  have cmp : ∀ {x : V} {dx : PyData}, Cmp H x dx → Cmp H' x dx := fun {x dx} c => by
    cases c with
    | str s o => exact .str s o
    | non => exact .non
    | bl b => exact .bl b
    | @lst q z o e =>
      refine .lst z o (s.off q _ (fun n => ?_) e)
      subst n
      obtain ⟨a, b, c, e2⟩ := hd
      rw [e] at e2
      cases e2
  cases h with
  | flat f => exact .flat f
  | @lst p xs e =>
    by_cases n : p = d
    · subst n
      obtain ⟨a, b, c, e2⟩ := s.dice
      exact .lst e2
    · exact .lst (s.off p _ n e)
  | dic e => exact .dic (s.at e (fun _ z => nomatch z) hd)
  | len e l => exact .len (tk.tup _ _ e) l
  | bad e a b c q => exact .bad (tk.tup _ _ e) (cmp a) (cmp b) (cmp c) q
def NKs (H : Hp) (vs : List V) : Prop := ∀ v ∈ vs, NotKind H v
theorem NKs.nil {H : Hp} : NKs H [] := fun _ h => absurd h (by simp)
theorem NKs.cons {H : Hp} {v : V} {vs : List V} (h : NotKind H v) (t : NKs H vs) : NKs H (v :: vs) := fun x hx => by
  rcases List.mem_cons.mp hx with e | e
  · rw [e]; exact h
  · exact t x e
theorem NKs.app {H : Hp} {vs us : List V} (h : NKs H vs) (t : NKs H us) : NKs H (vs ++ us) := fun x hx => (List.mem_append.mp hx).elim (h x) (t x)
theorem NKs.same {H H' : Hp} {vs : List V} (h : NKs H vs) (e : Same H H') : NKs H' vs := fun x hx => (h x hx).same e
theorem NKs.step {H H' : Hp} {d : Addr} {vs : List V} (h : NKs H vs) (hd : Dice H d) (s : DStep d H H') : NKs H' vs := fun x hx => (h x hx).step hd s
def spOdd : Sp := fun vs H Q _ => ∃ d : Addr, vs = [.ref d] ∧ Dice H d ∧ ∀ x H', NotKind H' x → DStep d H H' → Q x H'
def spWords : Sp := fun vs H Q _ => vs = [] ∧ ∀ H' p a b c, Same H H' → H' p = some (.tup [.ref a, .ref b, .ref c]) → H' a = some (.tup (wsL.map V.str)) → H' b = some (.tup (wsT.map V.str)) → H' c = some (.tup (wsU.map V.str)) → Q (.ref p) H'
def spKind (K : PySem.W.Frag) : Sp := fun vs H Q _ => ∃ d : Addr, vs = [.ref d] ∧ Dice H d ∧ ∀ v k H', KindAt K H' v k → DStep d H H' → Q v H'
section
variable {P : Program} {w : World} {K : PySem.W.Frag} {mg : Str → Option Value} {base : Heap}
theorem scOdd : FnScope ["_law_dice_here", "_law_odd_here"] ["_law_dice_here"] (defScope (top 15)) := ⟨rfl, rfl, rfl, by decide +kernel, rfl, by decide +kernel, by decide +kernel⟩
theorem ok_odd {fd : FuncData} (T : Tx K mg) (F : FnT K "_law_odd" 15 fd) (h1 : Has P w K mg base CX0 2 "_law_pick" ["_law_dice_here", "_law_items"] (spPick K)) : FnOk P w K mg base CX0 3 (He.ga K "_law_odd") fd ["_law_dice_here"] spOdd := by
  refine F.ok scOdd (fun vs H Q E h => ?_) (fun cdv A outer s H vs Q E hr h => ⟨_, PSs.nox (
    pss_cons (ps_set (i := 1) scOdd.nd rfl (.inl rfl) (pe_lst (pa_cons pe_non (pa_cons pe_int (pa_cons pe_int (pa_cons (pe_un un_neg pe_int) (pa_cons pe_bl (pa_cons pe_bl (pa_cons (pe_tup pa_nil) (pa_cons (pe_tup (pa_cons pe_str pa_nil)) (pa_cons (pe_lst (pa_cons pe_str pa_nil))
      (pa_cons (pe_disp (pps_cons pe_str pe_int pps_nil) rfl rfl (by simp) (by decide)) (pa_cons (pe_lst (pa_cons (pe_lst pa_nil) pa_nil)) (pa_cons (pe_tup (pa_cons pe_str (pa_cons pe_int pa_nil))) (pa_cons (pe_tup (pa_cons pe_non (pa_cons pe_non pa_nil))) pa_nil)))))))))))))))
    (pss_one (ps_ret (pe_has h1 hr pass0 (pa_cons (pv 0) (pa_cons (pv 1) pa_nil)))))), ?_⟩)
  · obtain ⟨d, rfl, _⟩ := h
    rfl
  obtain ⟨d, rfl, hd, q⟩ := h
  refine ⟨_, rfl, ?_⟩
  refine ⟨by decide, fun p1 n1 => ?_⟩
  have s1 := same_new (o := .tup []) n1
  have k1 : NKs (upd H p1 (.tup [])) [.non, .int 0, .int 7, .int (-1), .bl true, .bl false, .ref p1] := .cons (.flat rfl) (.cons (.flat rfl) (.cons (.flat rfl) (.cons (.flat rfl) (.cons (.flat rfl) (.cons (.flat rfl) (.cons (.len upd_same (by decide)) .nil))))))
  generalize upd H p1 (.tup []) = H1 at s1 k1 ⊢
  refine ⟨by decide, fun p2 n2 => ?_⟩
  have s2 := s1.trans (same_new (o := .tup [.str "a"]) n2)
  have k2 := NKs.app (k1.same (same_new (o := .tup [.str "a"]) n2)) (.cons (.len upd_same (by decide)) .nil)
  generalize upd H1 p2 (.tup [.str "a"]) = H2 at s2 k2 ⊢
  refine ⟨by decide, fun p3 n3 => ?_⟩
  have s3 := s2.trans (same_new (o := .lst [.str "a"]) n3)
  have k3 := NKs.app (k2.same (same_new (o := .lst [.str "a"]) n3)) (.cons (.lst upd_same) .nil)
  generalize upd H2 p3 (.lst [.str "a"]) = H3 at s3 k3 ⊢
  refine fun p4 n4 => ⟨upd_same, [(.inr "a", .int 1)], rfl, by decide, ?_⟩
  have t4 : Same H3 (upd (upd H3 p4 (.dK [])) p4 (.dK (mergeK [] [(.inr "a", .int 1)]))) := fun b o e => (upd_ne (ne_of_none e n4)).trans ((upd_ne (ne_of_none e n4)).trans e)
  have s4 := s3.trans t4
  have k4 := NKs.app (k3.same t4) (.cons (.dic upd_same) .nil)
  clear t4
  generalize upd (upd H3 p4 (.dK [])) p4 (.dK (mergeK [] [(.inr "a", .int 1)])) = H4 at s4 k4 ⊢
  refine ⟨by decide, fun p5 n5 => ⟨by show 1 ≤ sizeLine; decide, fun p6 n6 => ?_⟩⟩
  have t6 := (same_new (o := .lst []) n5).trans (same_new (o := .lst [.ref p5]) n6)
  have s6 := s4.trans t6
  have k6 := NKs.app (k4.same t6) (.cons (.lst upd_same) .nil)
  clear t6
  generalize upd (upd H4 p5 (.lst [])) p6 (.lst [.ref p5]) = H6 at s6 k6 ⊢
  refine ⟨by decide, fun p7 n7 => ?_⟩
  have s7 := s6.trans (same_new (o := .tup [.str "a", .int 0]) n7)
  have k7 := NKs.app (k6.same (same_new (o := .tup [.str "a", .int 0]) n7)) (.cons (.len upd_same (by decide)) .nil)
  generalize upd H6 p7 (.tup [.str "a", .int 0]) = H7 at s7 k7 ⊢
  refine ⟨by decide, fun p8 n8 => ?_⟩
  have s8 := s7.trans (same_new (o := .tup [.non, .non]) n8)
  have k8 := NKs.app (k7.same (same_new (o := .tup [.non, .non]) n8)) (.cons (.len upd_same (by decide)) .nil)
  generalize upd H7 p8 (.tup [.non, .non]) = H8 at s8 k8 ⊢
  refine ⟨by show 13 ≤ sizeLine; decide, fun p9 n9 => ?_⟩
  obtain ⟨x, y, z, hd'⟩ := id hd
  have d8 := s8 d _ hd'
  refine ⟨_, rfl, _, rfl, d, p9, _, rfl, ⟨x, y, z, by rw [upd_ne (ne_of_none d8 n9)]; exact d8⟩, fun z => ne_of_none d8 n9 z.symm, SqL.of upd_same, by show 1 ≤ 13; decide, by show 13 ≤ 64; decide, fun x' H' hx st => ?_⟩
  have k9 := k8.same (same_new (o := .lst [.non, .int 0, .int 7, .int (-1), .bl true, .bl false, .ref p1, .ref p2, .ref p3, .ref p4, .ref p6, .ref p7, .ref p8]) n9)
  have s9 := s8.trans (same_new (o := .lst [.non, .int 0, .int 7, .int (-1), .bl true, .bl false, .ref p1, .ref p2, .ref p3, .ref p4, .ref p6, .ref p7, .ref p8]) n9)
  exact q x' H' ((k9 x' hx).step ⟨x, y, z, s9 d _ hd'⟩ st) ((DStep.same hd s9).trans st)
theorem has_odd {fd : FuncData} (T : Tx K mg) (F : FnT K "_law_odd" 15 fd) (h1 : Has P w K mg base CX0 2 "_law_pick" ["_law_dice_here", "_law_items"] (spPick K)) : Has P w K mg base CX0 3 "_law_odd" ["_law_dice_here"] spOdd :=
  FunD.has T F (ok_odd T F h1) (by decide) fun _ _ _ _ _ _ us hl => match us, hl with | [_], _ => rfl
theorem scWords : FnScope [] [] (defScope (top 16)) := ⟨rfl, rfl, rfl, by decide +kernel, rfl, by decide +kernel, by decide +kernel⟩
theorem ok_words {fd : FuncData} (F : FnT K "_law_words" 16 fd) : FnOk P w K mg base CX0 1 (He.ga K "_law_words") fd [] spWords := by
  refine F.ok scWords (fun vs H Q E h => ?_) (fun cdv A outer s H vs Q E hr h => ⟨_, PSs.nox (pss_one (ps_ret (pe_tup (pa_cons (pe_tup (pa_cons pe_str (pa_cons pe_str (pa_cons pe_str pa_nil)))) (pa_cons (pe_tup (pa_cons pe_str (pa_cons pe_str (pa_cons pe_str pa_nil))))
    (pa_cons (pe_tup (pa_cons pe_str (pa_cons pe_str (pa_cons pe_str pa_nil)))) pa_nil)))))), ?_⟩)
  · obtain ⟨rfl, _⟩ := h
    rfl
  obtain ⟨rfl, q⟩ := h
  refine ⟨by decide, fun p1 n1 => ⟨by decide, fun p2 n2 => ⟨by decide, fun p3 n3 => ⟨by show 3 ≤ sizeLine; decide, fun p4 n4 => ?_⟩⟩⟩⟩
  have s2 := same_new (o := .tup (wsT.map V.str)) n2
  have s3 := same_new (o := .tup (wsU.map V.str)) n3
  have s4 := same_new (o := .tup [.ref p1, .ref p2, .ref p3]) n4
  exact q _ p4 p1 p2 p3 ((same_new n1).trans (s2.trans (s3.trans s4))) upd_same (s4 _ _ (s3 _ _ (s2 _ _ upd_same))) (s4 _ _ (s3 _ _ upd_same)) (s4 _ _ upd_same)
theorem has_words {fd : FuncData} (T : Tx K mg) (F : FnT K "_law_words" 16 fd) : Has P w K mg base CX0 1 "_law_words" [] spWords :=
  FunD.has T F (ok_words F) (by decide) fun _ _ _ _ _ _ us hl => match us, hl with | [], _ => rfl
def rListOf (K : PySem.W.Frag) : List V → Hp → VK → Prop := fun xs H Q => ∃ p ys, xs = [.ref p] ∧ (SqL K H p ys ∨ SqT K H p ys) ∧ ∀ l, H l = none → Q (.ref l) (upd H l (.lst ys))
theorem call_listK {X : Cx} : CallR X (.type "list") (rListOf X.K) := call_list_of
theorem scKind : FnScope ["_law_dice_here", "_law_words_here"] ["_law_dice_here"] (defScope (top 17)) := ⟨rfl, rfl, rfl, by decide +kernel, rfl, by decide +kernel, by decide +kernel⟩
theorem ok_kind {fd : FuncData} (T : Tx K mg) (F : FnT K "_law_kind" 17 fd) (hp : Has P w K mg base CX0 2 "_law_pick" ["_law_dice_here", "_law_items"] (spPick K)) (hw : Has P w K mg base CX0 1 "_law_words" [] spWords) :
    FnOk P w K mg base CX0 3 (He.ga K "_law_kind") fd ["_law_dice_here"] (spKind K) := by
  have gl : mg "list" = none := T.fre _ (by decide)
  have gt : mg "tuple" = none := T.fre _ (by decide)
  refine F.ok scKind (fun vs H Q E h => ?_) (fun cdv A outer s H vs Q E hr h => ⟨_, PSs.nox (pss_one (ps_ret (pe_callTy call_tuple_of rfl gt PyProof.Rows.boot_tuple (pa_cons
    (pe_lc (own := [("_law_words_here", 1)]) (g := gName 1) (tt := tYes) rfl scKind.nd (pi_tup (pe_has0 hw hr pass0)) (blkOk_by (N := ["_law_dice_here", "_law_words_here"]) (sc := defScope (top 17)) (by decide +kernel)) (fun _ _ _ _ _ => pg_name (i := 1) scKind.nd rfl (.inl rfl)) (fun _ _ _ _ _ => pts_nil)
      (fun _ _ _ _ _ => pe_has hp hr pass0 (pa_cons (pv 0) (pa_cons (pe_callTy (call_listK : CallR _ _ (rListOf K)) rfl gl PyProof.Rows.boot_list (pa_cons (pv 1) pa_nil)) pa_nil)))) pa_nil)))), ?_⟩)
  · obtain ⟨d, rfl, _⟩ := h
    rfl
  obtain ⟨d, rfl, hd, q⟩ := h
  refine ⟨rfl, fun H1 p a b c sm hp ha hb hc => ⟨p, rfl, ⟨_, SqT.of hp⟩, fun D nD => ?_⟩⟩
  have st1 : DStep d H H1 := .same hd sm
  have hd1 := st1.dice
  have nDd : D ≠ d := fun e => by
    obtain ⟨x, y, z, e2⟩ := hd1
    rw [← e, nD] at e2
    cases e2
  have turn : ∀ (q : Addr) (ws : List Str) (H2 : Hp) (acc : List V) (Nx : Hp → Prop), H1 q = some (.tup (ws.map V.str)) → 1 ≤ ws.length → ws.length ≤ 64 → acc.length < 10 → DStep d H1 H2 → H2 D = some (.lst acc) →
      (∀ z ∈ ws, ∀ H3, DStep d H1 H3 → H3 D = some (.lst (acc ++ [.str z])) → Nx H3) →
      tHas (spPick K) E0 (tCons (tVar 0) (tCons (tCB (rListOf K) (tCons (tVar 1) tNil)) tNil)) [some (.ref d), some (.ref q)] H2 (fun y H4 => ∃ acc, H4 D = some (.lst acc) ∧ acc.length < sizeLine ∧ Nx (upd H4 D (.lst (acc ++ [y])))) := fun q ws H2 acc Nx hq l1 l2 la s2 hD hN => by
    obtain ⟨x, y, z, hd2⟩ := id s2.dice
    have tk := s2.tk hd1
    refine ⟨_, rfl, _, rfl, q, _, rfl, .inr (tk.sqt (SqT.of hq)), fun l nl => ?_⟩
    have nld : l ≠ d := fun e => ne_of_none hd2 nl e.symm
    refine ⟨d, l, ws.map V.str, rfl, ⟨x, y, z, by rw [upd_ne (fun e => nld e.symm)]; exact hd2⟩, nld, SqL.of upd_same, by simpa using l1, by simpa using l2, fun x' H4 hx s4 => ?_⟩
    obtain ⟨z', hz, rfl⟩ := List.mem_map.mp hx
    have s24 : DStep d H2 H4 := (DStep.same s2.dice (same_new (o := .lst (ws.map V.str)) nl)).trans s4
    have hD4 := s24.off D _ nDd hD
    refine ⟨acc, hD4, Nat.lt_trans la (by decide), hN z' hz _ ⟨fun u o n e => ?_, ?_⟩ upd_same⟩
    · rw [upd_ne (ne_of_none e nD)]
      exact (s2.trans s24).off u o n e
    · obtain ⟨x, y, z, e⟩ := s24.dice
      exact ⟨x, y, z, by rw [upd_ne (fun e => nDd e.symm)]; exact e⟩
  have inL : ∀ z ∈ wsL, ∃ j : F3, z = wL j := by decide +kernel
  have inT : ∀ z ∈ wsT, ∃ j : F3, z = wT j := by decide +kernel
  have inU : ∀ z ∈ wsU, ∃ j : F3, z = wU j := by decide +kernel
  refine lc_tup (K := K) (a := p) (xs := [.ref a, .ref b, .ref c]) (fun i H2 => DStep d H1 H2 ∧ ∃ k : Kn, H2 D = some (.lst ((words k).take i))) ⟨.same hd1 (same_new nD), (0, 0, 0), upd_same⟩ (fun i H2 _ ⟨s2, _⟩ => (s2.tk hd1).sqt (SqT.of hp)) (fun i x H2 hx ⟨s2, k, hD⟩ => ?_) fun H2 ⟨s2, k, hD⟩ => ?_
  · match i, hx, hD with
    | 0, hx, hD =>
      obtain rfl := Option.some.inj (show some (V.ref a) = some x from hx)
      refine ⟨rfl, (turn a wsL H2 _ (fun H3 => DStep d H1 H3 ∧ ∃ k : Kn, H3 D = some (.lst ((words k).take (0 + 1)))) ha (by decide) (by decide) (by show 0 < 10; decide) s2 hD fun z hz H3 s3 e3 => ?_)⟩
      obtain ⟨j, rfl⟩ := inL z hz
      exact ⟨s3, (j, k.2.1, k.2.2), e3⟩
    | 1, hx, hD =>
      obtain rfl := Option.some.inj (show some (V.ref b) = some x from hx)
      refine ⟨rfl, (turn b wsT H2 _ (fun H3 => DStep d H1 H3 ∧ ∃ k : Kn, H3 D = some (.lst ((words k).take (1 + 1)))) hb (by decide) (by decide) (by show 1 < 10; decide) s2 hD fun z hz H3 s3 e3 => ?_)⟩
      obtain ⟨j, rfl⟩ := inT z hz
      exact ⟨s3, (k.1, j, k.2.2), e3⟩
    | 2, hx, hD =>
      obtain rfl := Option.some.inj (show some (V.ref c) = some x from hx)
      refine ⟨rfl, (turn c wsU H2 _ (fun H3 => DStep d H1 H3 ∧ ∃ k : Kn, H3 D = some (.lst ((words k).take (2 + 1)))) hc (by decide) (by decide) (by show 2 < 10; decide) s2 hD fun z hz H3 s3 e3 => ?_)⟩
      obtain ⟨j, rfl⟩ := inU z hz
      exact ⟨s3, (k.1, k.2.1, j), e3⟩
    | n + 3, hx, hD => simp at hx
  · refine ⟨D, words k, rfl, .inl ⟨SqL.of hD, fun l nl => ?_⟩⟩
    exact q _ k _ ⟨l, rfl, SqT.of upd_same⟩ ((st1.trans s2).new nl)
theorem has_kind {fd : FuncData} (T : Tx K mg) (F : FnT K "_law_kind" 17 fd) (hp : Has P w K mg base CX0 2 "_law_pick" ["_law_dice_here", "_law_items"] (spPick K)) (hw : Has P w K mg base CX0 1 "_law_words" [] spWords) :
    Has P w K mg base CX0 3 "_law_kind" ["_law_dice_here"] (spKind K) :=
  FunD.has T F (ok_kind T F hp hw) (by decide) fun _ _ _ _ _ _ us hl => match us, hl with | [_], _ => rfl
end
end Kd
/-! K10b: no kind -/
namespace Kd
open PySem PySem.Spec PyProof.Rows L2
def spNo : Sp := fun vs H Q _ => ∃ d : Addr, vs = [.ref d] ∧ Dice H d ∧ ∀ x H', NotKind H' x → DStep d H H' → Q x H'
/-- the list so far -/
structure Near (d : Addr) (H0 H : Hp) (p : Addr) (xs : List V) : Prop where
  at_ : H p = some (.lst xs)
  nk : NKs H xs
  st : DStep d H0 H
  ne : p ≠ d
  fr : H0 p = none
theorem DStep.fr {d p : Addr} {H0 H : Hp} (st : DStep d H0 H) (n : H p = none) : H0 p = none := by
  obtain ⟨x, y, z, e⟩ := st.dice
  have h : p ≠ d := fun q => ne_of_none e n q.symm
  cases q : H0 p with
  | none => rfl
  | some o => exact absurd (st.off p o h q) (by rw [n]; exact fun z => nomatch z)
theorem near_new {d p : Addr} {H0 H : Hp} {xs : List V} (st : DStep d H0 H) (n : H p = none) (k : NKs H xs) : Near d H0 (upd H p (.lst xs)) p xs := by
  obtain ⟨x, y, z, e⟩ := st.dice
  exact ⟨upd_same, k.same (same_new n), st.new n, fun q => ne_of_none e n q.symm, st.fr n⟩
theorem near_cat {d p q : Addr} {H0 H H' : Hp} {xs zs : List V} (h : Near d H0 H p xs) (e : Same H H') (n : H' q = none) (k : NKs H' zs) : Near d H0 (upd H' q (.lst (xs ++ zs))) q (xs ++ zs) :=
  near_new (h.st.trans (.same h.st.dice e)) n ((h.nk.same e).app k)
theorem badc {H : Hp} {p : Addr} {x y z : V} {dx dy dz : PyData} (a : Cmp H x dx) (b : Cmp H y dy) (c : Cmp H z dz) (n : H p = none) (q : (anyD wsL dx && (anyD wsT dy && anyD wsU dz)) = false) : NotKind (upd H p (.tup [x, y, z])) (.ref p) :=
  .bad upd_same (a.nt (.same (same_new n))) (b.nt (.same (same_new n))) (c.nt (.same (same_new n))) q
theorem and1 {a b c : Bool} (h : a = false) : (a && (b && c)) = false := by subst h; rfl
theorem and2 {a b c : Bool} (h : b = false) : (a && (b && c)) = false := by subst h; cases a <;> rfl
theorem and3 {a b c : Bool} (h : c = false) : (a && (b && c)) = false := by subst h; cases a <;> cases b <;> rfl
section
variable {P : Program} {w : World} {K : PySem.W.Frag} {mg : Str → Option Value} {base : Heap}
theorem scNo : FnScope ["_law_dice_here", "_law_lending", "_law_letting", "_law_turning", "_law_near"] ["_law_dice_here"] (defScope (top 18)) := ⟨rfl, rfl, rfl, by decide +kernel, rfl, by decide +kernel, by decide +kernel⟩
theorem ok_no {fd : FuncData} (T : Tx K mg) (F : FnT K "_law_no_kind" 18 fd) (hk : Has P w K mg base CX0 3 "_law_kind" ["_law_dice_here"] (spKind K)) (hp : Has P w K mg base CX0 2 "_law_pick" ["_law_dice_here", "_law_items"] (spPick K)) (ho : Has P w K mg base CX0 3 "_law_odd" ["_law_dice_here"] spOdd) :
    FnOk P w K mg base CX0 4 (He.ga K "_law_no_kind") fd ["_law_dice_here"] spNo := by
  refine F.ok scNo (fun vs H Q E h => ?_) (fun cdv A outer s H vs Q E hr h => ⟨_, PSs.nox (pss_cons (ps_asg (pe_has hk hr pass0 (pa_cons (pv 0) pa_nil)) (pg_tup rfl (pgs_cons (pg_name (i := 1) scNo.nd rfl (.inl rfl)) (pgs_cons (pg_name (i := 2) scNo.nd rfl (.inl rfl)) (pgs_cons (pg_name (i := 3) scNo.nd rfl (.inl rfl)) pgs_nil)))))
    (pss_cons (ps_set (i := 4) scNo.nd rfl (.inl rfl) (pe_lst (pa_cons (pe_lst (pa_cons (pv 1) (pa_cons (pv 2) (pa_cons (pv 3) pa_nil)))) (pa_cons (pe_tup (pa_cons (pv 1) (pa_cons (pv 2) pa_nil))) pa_nil))))
    (pss_cons (ps_expr (pe_bm PySem.F.plainAttrs_list PySem.F.slot_list_append PySem.F.type_list_append mt_append (pv 4) (pa_cons (pe_tup (pa_cons (pv 1) (pa_cons (pv 2) (pa_cons (pv 3) (pa_cons (pv 3) pa_nil))))) pa_nil)))
    (pss_cons (ps_set (i := 4) scNo.nd rfl (.inl rfl) (pe_op op_cat (pv 4) (pe_lst (pa_cons (pe_tup (pa_cons (pv 2) (pa_cons (pv 1) (pa_cons pe_str pa_nil)))) (pa_cons (pe_tup (pa_cons (pv 1) (pa_cons pe_str (pa_cons (pv 3) pa_nil)))) pa_nil)))))
    (pss_cons (ps_set (i := 4) scNo.nd rfl (.inl rfl) (pe_op op_cat (pv 4) (pe_lst (pa_cons (pe_tup (pa_cons (pv 1) (pa_cons (pv 2) (pa_cons pe_str pa_nil)))) (pa_cons (pe_tup (pa_cons pe_str (pa_cons (pv 2) (pa_cons (pv 3) pa_nil)))) pa_nil)))))
    (pss_cons (ps_set (i := 4) scNo.nd rfl (.inl rfl) (pe_op op_cat (pv 4) (pe_lst (pa_cons (pe_tup (pa_cons pe_non (pa_cons (pv 2) (pa_cons (pv 3) pa_nil)))) (pa_cons (pe_tup (pa_cons (pv 1) (pa_cons pe_bl (pa_cons (pv 3) pa_nil)))) pa_nil)))))
    (pss_cons (ps_set (i := 4) scNo.nd rfl (.inl rfl) (pe_op op_cat (pv 4) (pe_lst (pa_cons (pe_tup (pa_cons (pv 1) (pa_cons (pv 2) (pa_cons (pe_lst (pa_cons (pv 3) pa_nil)) pa_nil)))) (pa_cons (pv 1) (pa_cons (pe_op op_add_str (pe_op op_add_str (pv 1) (pv 2)) (pv 3)) pa_nil))))))
    (pss_one (ps_ret (pe_has hp hr pass0 (pa_cons (pv 0) (pa_cons (pe_op op_cat (pv 4) (pe_lst (pa_cons (pe_tup (pa_cons (pe_tup (pa_cons (pv 1) (pa_cons (pv 2) (pa_cons (pv 3) pa_nil)))) pa_nil)) (pa_cons (pe_has ho hr pass0 (pa_cons (pv 0) pa_nil)) (pa_cons pe_str (pa_cons (pe_tup pa_nil) (pa_cons pe_dnewK pa_nil))))))) pa_nil)))))))))))), ?_⟩)
  · obtain ⟨d, rfl, _⟩ := h
    rfl
  obtain ⟨d, rfl, hd, q⟩ := h
  have hd0 := hd
  obtain ⟨x0, y0, z0, hde⟩ := id hd
  refine ⟨_, rfl, d, rfl, hd, fun v kn H1 hkn s1 => ?_⟩
  obtain ⟨pk, rfl, sk⟩ := hkn
  refine ⟨pk, _, rfl, sk, rfl, _, _, rfl, _, _, rfl, _, _, rfl, rfl, ?_⟩
  obtain ⟨a, b, c⟩ := kn
  have hd1 := s1.dice
  have cL : ∀ H : Hp, Cmp H (.str (wL a)) (.str (wL a)) := fun H => .str _ (okL a)
  have cT : ∀ H : Hp, Cmp H (.str (wT b)) (.str (wT b)) := fun H => .str _ (okT b)
  have cU : ∀ H : Hp, Cmp H (.str (wU c)) (.str (wU c)) := fun H => .str _ (okU c)
  -- the first list
  refine ⟨_, rfl, _, rfl, _, rfl, by show 3 ≤ sizeLine; decide, fun p1 n1 => ⟨_, rfl, _, rfl, by show 2 ≤ sizeLine; decide, fun p2 n2 => ⟨by show 2 ≤ sizeLine; decide, fun p3 n3 => ?_⟩⟩⟩
  have N3 : Near d H (upd (upd (upd H1 p1 (.lst [.str (wL a), .str (wT b), .str (wU c)])) p2 (.tup [.str (wL a), .str (wT b)])) p3 (.lst [.ref p1, .ref p2])) p3 [.ref p1, .ref p2] := by
    have t1 := same_new (o := .lst [.str (wL a), .str (wT b), .str (wU c)]) n1
    have t2 := same_new (o := .tup [.str (wL a), .str (wT b)]) n2
    exact near_new (s1.trans (.same hd1 (t1.trans t2))) n3 (.cons (.lst (t2 _ _ upd_same)) (.cons (.len upd_same (by show 2 ≠ 3; decide)) .nil))
  have e1 : upd (upd (upd H1 p1 (.lst [.str (wL a), .str (wT b), .str (wU c)])) p2 (.tup [.str (wL a), .str (wT b)])) p3 (.lst [.ref p1, .ref p2]) p1 = some (.lst [.str (wL a), .str (wT b), .str (wU c)]) := same_new n3 _ _ (same_new n2 _ _ upd_same)
  have e2 : upd (upd (upd H1 p1 (.lst [.str (wL a), .str (wT b), .str (wU c)])) p2 (.tup [.str (wL a), .str (wT b)])) p3 (.lst [.ref p1, .ref p2]) p2 = some (.tup [.str (wL a), .str (wT b)]) := same_new n3 _ _ upd_same
  revert N3 e1 e2
  show Near d H (upd (upd (upd H1 p1 (.lst [.str (wL a), .str (wT b), .str (wU c)])) p2 (.tup [.str (wL a), .str (wT b)])) p3 (.lst [.ref p1, .ref p2])) p3 [.ref p1, .ref p2] → (upd (upd (upd H1 p1 (.lst [.str (wL a), .str (wT b), .str (wU c)])) p2 (.tup [.str (wL a), .str (wT b)])) p3 (.lst [.ref p1, .ref p2])) p1 = _ → (upd (upd (upd H1 p1 (.lst [.str (wL a), .str (wT b), .str (wU c)])) p2 (.tup [.str (wL a), .str (wT b)])) p3 (.lst [.ref p1, .ref p2])) p2 = _ → (fun H1 => _) (upd (upd (upd H1 p1 (.lst [.str (wL a), .str (wT b), .str (wU c)])) p2 (.tup [.str (wL a), .str (wT b)])) p3 (.lst [.ref p1, .ref p2]))
  generalize (upd (upd (upd H1 p1 (.lst [.str (wL a), .str (wT b), .str (wU c)])) p2 (.tup [.str (wL a), .str (wT b)])) p3 (.lst [.ref p1, .ref p2])) = H3
  intro N3 e1 e2
  have hd3 := N3.st.dice
  refine ⟨_, rfl, .inl ⟨rfl, _, SqL.of N3.at_⟩, _, rfl, _, rfl, _, rfl, _, rfl, by show 4 ≤ sizeLine; decide, fun p4 n4 => ⟨p3, _, .ref p4, rfl, rfl, same_new n4 _ _ N3.at_, by show 2 < sizeLine; decide, ?_⟩⟩
  have N4 : Near d H (upd (upd H3 p4 (.tup [.str (wL a), .str (wT b), .str (wU c), .str (wU c)])) p3 (.lst [.ref p1, .ref p2, .ref p4])) p3 [.ref p1, .ref p2, .ref p4] := by
    have e3 := N3.at_
    have f1 : p1 ≠ p3 := ne_of e1 e3 (by intro z; cases z)
    have f2 : p2 ≠ p3 := ne_of e2 e3 (by intro z; cases z)
    have f4 : p4 ≠ p3 := fun z => ne_of_none e3 n4 z.symm
    have t4 := same_new (o := .tup [.str (wL a), .str (wT b), .str (wU c), .str (wU c)]) n4
    refine ⟨upd_same, .cons (.lst (by rw [upd_ne f1]; exact t4 _ _ e1)) (.cons (.len (by rw [upd_ne f2]; exact t4 _ _ e2) (by show 2 ≠ 3; decide)) (.cons (.len (by rw [upd_ne f4]; exact upd_same) (by show 4 ≠ 3; decide)) .nil)), ⟨fun u o n e => ?_, ?_⟩, N3.ne, N3.fr⟩
    · rw [upd_ne (ne_of_none e N3.fr)]
      exact t4 _ _ (N3.st.off u o n e)
    · obtain ⟨x, y, z, e⟩ := hd3
      exact ⟨x, y, z, by rw [upd_ne (fun q => N3.ne q.symm)]; exact t4 _ _ e⟩
  revert N4
  show Near d H (upd (upd H3 p4 (.tup [.str (wL a), .str (wT b), .str (wU c), .str (wU c)])) p3 (.lst [.ref p1, .ref p2, .ref p4])) p3 [.ref p1, .ref p2, .ref p4] → (fun H1 => _) (upd (upd H3 p4 (.tup [.str (wL a), .str (wT b), .str (wU c), .str (wU c)])) p3 (.lst [.ref p1, .ref p2, .ref p4]))
  generalize upd (upd H3 p4 (.tup [.str (wL a), .str (wT b), .str (wU c), .str (wU c)])) p3 (.lst [.ref p1, .ref p2, .ref p4]) = H4
  intro N4
  clear e1 e2 N3 hd3
  refine ⟨_, rfl, _, rfl, _, rfl, by show 3 ≤ sizeLine; decide, fun a4 m1 => ⟨_, rfl, _, rfl, by show 3 ≤ sizeLine; decide, fun b4 m2 => ⟨by show 2 ≤ sizeLine; decide, fun c4 m3 => ⟨_, c4, _, _, rfl, rfl, same_new m3 _ _ (same_new m2 _ _ (same_new m1 _ _ N4.at_)), upd_same, by show 5 ≤ sizeLine; decide, fun q4 m4 => ?_⟩⟩⟩⟩
  have t4 := (same_new (o := .tup [.str (wT b), .str (wL a), .str "sometimes"]) m1).trans ((same_new (o := .tup [.str (wL a), .str "source", .str (wU c)]) m2).trans (same_new (o := .lst [.ref a4, .ref b4]) m3))
  have N5 := near_cat N4 t4 m4 (zs := [.ref a4, .ref b4]) (.cons ((badc (.str _ (okT b)) (.str _ (okL a)) (.str _ (by decide +kernel)) m1 (and3 (by decide +kernel)) : NotKind _ (.ref a4)).same ((same_new m2).trans (same_new m3))) (.cons ((badc (.str _ (okL a)) (.str _ (by decide +kernel)) (.str _ (okU c)) m2 (and2 (by decide +kernel)) : NotKind _ (.ref b4)).same (same_new m3)) .nil))
  clear t4
  revert N5
  refine (fun z => z : (∀ G : Hp, Near d H G q4 _ → _) → _) (fun H5 N5 => ?_) _
  clear N4 m1 m2 m3 m4
  refine ⟨_, rfl, _, rfl, _, rfl, by show 3 ≤ sizeLine; decide, fun a5 m1 => ⟨_, rfl, _, rfl, by show 3 ≤ sizeLine; decide, fun b5 m2 => ⟨by show 2 ≤ sizeLine; decide, fun c5 m3 => ⟨_, c5, _, _, rfl, rfl, same_new m3 _ _ (same_new m2 _ _ (same_new m1 _ _ N5.at_)), upd_same, by show 7 ≤ sizeLine; decide, fun q5 m4 => ?_⟩⟩⟩⟩
  have t5 := (same_new (o := .tup [.str (wL a), .str (wT b), .str "door"]) m1).trans ((same_new (o := .tup [.str "any", .str (wT b), .str (wU c)]) m2).trans (same_new (o := .lst [.ref a5, .ref b5]) m3))
  have N6 := near_cat N5 t5 m4 (zs := [.ref a5, .ref b5]) (.cons ((badc (.str _ (okL a)) (.str _ (okT b)) (.str _ (by decide +kernel)) m1 (and3 (by decide +kernel)) : NotKind _ (.ref a5)).same ((same_new m2).trans (same_new m3))) (.cons ((badc (.str _ (by decide +kernel)) (.str _ (okT b)) (.str _ (okU c)) m2 (and1 (by decide +kernel)) : NotKind _ (.ref b5)).same (same_new m3)) .nil))
  clear t5
  revert N6
  refine (fun z => z : (∀ G : Hp, Near d H G q5 _ → _) → _) (fun H6 N6 => ?_) _
  clear N5 m1 m2 m3 m4
  refine ⟨_, rfl, _, rfl, _, rfl, by show 3 ≤ sizeLine; decide, fun a6 m1 => ⟨_, rfl, _, rfl, by show 3 ≤ sizeLine; decide, fun b6 m2 => ⟨by show 2 ≤ sizeLine; decide, fun c6 m3 => ⟨_, c6, _, _, rfl, rfl, same_new m3 _ _ (same_new m2 _ _ (same_new m1 _ _ N6.at_)), upd_same, by show 9 ≤ sizeLine; decide, fun q6 m4 => ?_⟩⟩⟩⟩
  have t6 := (same_new (o := .tup [.non, .str (wT b), .str (wU c)]) m1).trans ((same_new (o := .tup [.str (wL a), .bl true, .str (wU c)]) m2).trans (same_new (o := .lst [.ref a6, .ref b6]) m3))
  have N7 := near_cat N6 t6 m4 (zs := [.ref a6, .ref b6]) (.cons ((badc .non (.str _ (okT b)) (.str _ (okU c)) m1 (and1 (by decide +kernel)) : NotKind _ (.ref a6)).same ((same_new m2).trans (same_new m3))) (.cons ((badc (.str _ (okL a)) (.bl true) (.str _ (okU c)) m2 (and2 (by decide +kernel)) : NotKind _ (.ref b6)).same (same_new m3)) .nil))
  clear t6
  revert N7
  refine (fun z => z : (∀ G : Hp, Near d H G q6 _ → _) → _) (fun H7 N7 => ?_) _
  clear N6 m1 m2 m3 m4
  have llen : ∀ i : F3, (wL i).length ≤ 20 := by decide +kernel
  have tlen : ∀ i : F3, (wT i).length ≤ 20 := by decide +kernel
  have ulen : ∀ i : F3, (wU i).length ≤ 20 := by decide +kernel
  have ltlen : ∀ i j : F3, (wL i ++ wT j).length ≤ 40 := by decide +kernel
  have z63 : (100 : Nat) ≤ sizeLine := by decide
  refine ⟨_, rfl, _, rfl, _, rfl, _, rfl, by show 1 ≤ sizeLine; decide, fun l7 m0 => ⟨by show 3 ≤ sizeLine; decide, fun a7 m1 => ⟨_, rfl, _, rfl, _, rfl, _, _, rfl, rfl, ?_, _, rfl, _, _, rfl, rfl, ?_, by show 3 ≤ sizeLine; decide, fun c7 m3 => ⟨_, c7, _, _, rfl, rfl, same_new m3 _ _ (same_new m1 _ _ (same_new m0 _ _ N7.at_)), upd_same, by show 12 ≤ sizeLine; decide, fun q7 m4 => ?_⟩⟩⟩⟩
  · have h1 := llen a
    have h2 := tlen b
    show (wL a).length + (wT b).length ≤ sizeLine
    omega
  · have h1 := ltlen a b
    have h2 := ulen c
    show (wL a ++ wT b).length + (wU c).length ≤ sizeLine
    omega
  have t7 := (same_new (o := .lst [.str (wU c)]) m0).trans ((same_new (o := .tup [.str (wL a), .str (wT b), .ref l7]) m1).trans (same_new (o := .lst [.ref a7, .str (wL a), .str (wL a ++ wT b ++ wU c)]) m3))
  have w3 : ∀ i : F3, anyD wsU (.list [.str (wU i)]) = false := fun i => by
    simp only [anyD, wsU, List.map, List.any, PyData.eqv]
    rfl
  have N8 := near_cat N7 t7 m4 (zs := [.ref a7, .str (wL a), .str (wL a ++ wT b ++ wU c)]) (.cons ((badc (.str _ (okL a)) (.str _ (okT b)) (.lst _ (okU c) upd_same) m1 (and3 (w3 c)) : NotKind _ (.ref a7)).same (same_new m3)) (.cons (.flat rfl) (.cons (.flat rfl) .nil)))
  clear t7
  revert N8
  refine (fun z => z : (∀ G : Hp, Near d H G q7 _ → _) → _) (fun H8 N8 => ?_) _
  clear N7 m0 m1 m3 m4
  refine ⟨_, rfl, _, rfl, _, rfl, _, rfl, _, rfl, by show 3 ≤ sizeLine; decide, fun u1 o1 => ⟨by show 1 ≤ sizeLine; decide, fun u2 o2 => ?_⟩⟩
  have v2 := (same_new (o := .tup [.str (wL a), .str (wT b), .str (wU c)]) o1).trans (same_new (o := .tup [.ref u1]) o2)
  have hd8 := N8.st.dice
  have hd9 := (DStep.same hd8 v2).dice
  refine ⟨_, rfl, d, rfl, hd9, fun x9 H9 nk9 s9 => ⟨by decide, fun u3 o3 u4 o4 => ⟨by show 5 ≤ sizeLine; decide, fun u5 o5 => ?_⟩⟩⟩
  have v5 := (same_new (o := .tup []) o3).trans ((same_new (o := .dK []) o4).trans (same_new (o := .lst [.ref u2, x9, .str "", .ref u3, .ref u4]) o5))
  have w9 : DStep d H8 H9 := (DStep.same hd8 v2).trans s9
  have N10 : Near d H (upd (upd (upd H9 u3 (.tup [])) u4 (.dK [])) u5 (.lst [.ref u2, x9, .str "", .ref u3, .ref u4])) q7 _ := ⟨v5 _ _ (w9.off q7 _ N8.ne N8.at_), (N8.nk.step hd8 w9).same v5, (N8.st.trans w9).trans (.same s9.dice v5), N8.ne, N8.fr⟩
  refine ⟨_, u5, _, _, rfl, rfl, N10.at_, upd_same, by show 17 ≤ sizeLine; decide, fun u6 o6 => ?_⟩
  have k2 : NotKind (upd (upd H8 u1 (.tup [.str (wL a), .str (wT b), .str (wU c)])) u2 (.tup [.ref u1])) (.ref u2) := .len upd_same (by show 1 ≠ 3; decide)
  have N11 := near_cat N10 (Same.refl _) o6 (zs := [.ref u2, x9, .str "", .ref u3, .ref u4]) (.cons ((k2.step hd9 s9).same v5) (.cons (nk9.same v5) (.cons (.flat rfl) (.cons ((NotKind.len (xs := []) (p := u3) upd_same (by show 0 ≠ 3; decide)).same ((same_new o4).trans (same_new o5))) (.cons ((NotKind.dic (p := u4) upd_same).same (same_new o5)) .nil)))))
  refine ⟨d, u6, _, rfl, N11.st.dice, N11.ne, SqL.of N11.at_, by show 1 ≤ 17; decide, by show 17 ≤ 64; decide, fun x' H' hx st => ?_⟩
  exact q x' H' ((N11.nk x' hx).step N11.st.dice st) (N11.st.trans st)
theorem has_no {fd : FuncData} (T : Tx K mg) (F : FnT K "_law_no_kind" 18 fd) (hk : Has P w K mg base CX0 3 "_law_kind" ["_law_dice_here"] (spKind K)) (hp : Has P w K mg base CX0 2 "_law_pick" ["_law_dice_here", "_law_items"] (spPick K)) (ho : Has P w K mg base CX0 3 "_law_odd" ["_law_dice_here"] spOdd) :
    Has P w K mg base CX0 4 "_law_no_kind" ["_law_dice_here"] spNo :=
  FunD.has T F (ok_no T F hk hp ho) (by decide) fun _ _ _ _ _ _ us hl => match us, hl with | [_], _ => rfl
end
end Kd
/-! K11: lambdas that are kept and called elsewhere -/
namespace Kd
open PySem PySem.Spec PyProof.Rows L2 LamX NdefX
/-- the object at f is such a lambda -/
def LamO (f : Addr) (L : NF) (b : Expr) : HO := .ext fun h => ∃ pm ctv : Value, h.get? f = some (PySem.W.kla_obj "<lambda>" L.qual L.params b L.scope L.cl pm L.c ctv)
theorem lamO_at {P : Program} {w : World} {H : Hp} {h : Heap} {f : Addr} {L : NF} {b : Expr} (hok : HOk P w H h) (e : H f = some (LamO f L b)) : ∃ pm ctv : Value, h.get? f = some (PySem.W.kla_obj "<lambda>" L.qual L.params b L.scope L.cl pm L.c ctv) := by
  obtain ⟨z, _, _⟩ := hok f _ e
  exact z
theorem lamO_ne {f : Addr} {L : NF} {b : Expr} (ps : Array Value) : LamO f L b ≠ .tbl ps := fun z => by
  unfold LamO at z
  cases z
/-- the cells go on as they were at the running frame's start -/
theorem cells_later {X : Cx} {pins : List (Addr × Obj)} {σ : L2.St} {H : Hp} {s : Shared} {cl : List (Str × Addr)} {fr : List Str} {ws : List (Option V)} (C : CellsAt cl fr ws X.s_0.heap X.H_0) (hx : ∀ y c, cl.lookup y = some c → c ∉ X.ex) (I : Inv X pins σ H s) : CellsAt cl fr ws s.heap H := by
  have kp : ∀ y c, cl.lookup y = some c → ∀ v, X.s_0.heap.IsCell c v → s.heap.IsCell c v := fun y c e v ⟨o, ho, hd⟩ => by
    obtain ⟨sl, q⟩ := I.base.any ho (C.all y c e).1 (hx y c e)
    exact ⟨_, q, hd⟩
  refine ⟨C.len, fun y c e => ?_, C.inj, fun i y e => ?_⟩
  · obtain ⟨n, v, z⟩ := C.all y c e
    obtain ⟨o, ho, _⟩ := id z
    exact ⟨I.base.free c o ho n (hx y c e), v, kp y c e v z⟩
  · obtain ⟨c, hc, hv⟩ := C.has i y e
    exact ⟨c, hc, fun v ev => (hv v ev).imp fun u q => ⟨q.1, kp y c hc _ q.2⟩⟩
abbrev SpL := List (Option V) → Hp → VK → XK → Prop
/-- what a lambda promises, whoever calls it, as long as its cells hold ws -/
def LGood (P : Program) (w : World) (K : PySem.W.Frag) (mg : Str → Option Value) (base : Heap) (k : Nat) (f : Addr) (L : NF) (b : Expr) (fr : List Str) (spr : SpL) : Prop :=
  ∀ (A : Around) (outer : List Env) (s : Shared) (H : Hp) (ws : List (Option V)) (Q : VK) (E : XK), Room k A → Env0 P w K mg base A outer s H → H f = some (LamO f L b) → H L.c = some (CodeO L.c L.qual) → CellsAt L.cl fr ws s.heap H → spr ws H Q E →
    codeAny (model P w) A (.call (.ref f) ⟨[], []⟩) (CR (L2.CX P w) outer P w H s Q E) s
section
variable {P : Program} {w : World} {K : PySem.W.Frag} {mg : Str → Option Value} {base : Heap} {k : Nat} {f : Addr} {L : NF} {b : Expr} {N fr : List Str} {spr : SpL}
theorem lgood_of (S : NScope N [] fr L.scope) (hbd : ∀ pm ctv : Value, bindArgs (PySem.W.kla_fn "<lambda>" L.qual L.params b L.scope L.cl pm (.ref L.c) ctv) ⟨[], []⟩ = pure [])
    (hbody : ∀ (A : Around) (outer : List Env) (s : Shared) (H : Hp) (ws : List (Option V)) (Q : VK) (E : XK), Room k (A.deeper (envF L f s.heap.objs.size)) → ws.length = fr.length → spr ws H Q E →
      ∃ te, PE (ncx (L2.CX P w) P w K mg base N L f A outer s H E) b te ∧ te (startF N [] ws) H Q) : LGood P w K mg base (k + 1) f L b fr spr := by
  intro A outer s H ws Q E hr e0 hf hc C hsp
  have lim : s.heap.NoLimit := e0.mod.nolimit.keeps fun b o e => (e0.bs b o e).1
  obtain ⟨pm, ctv, ho⟩ := lamO_at e0.hok hf
  refine PySem.W.kla_callFunE hr.depth ho rfl S.co S.gen rfl (codeO_at e0.hok hc) ?_
  rw [hbd pm ctv]
  refine wpAny_pure (wpAny_newFunctionEnv S.nocell (fun y hy => absurd hy (by simp)) (fun h₁ hns hsb => ⟨lim.fresh _ hsb, ?_⟩) S.kind)
  show codeAny _ _ (.expr b (envF L f s.heap.objs.size)) _ _
  obtain ⟨te, ht, hq⟩ := hbody A outer s H ws Q E (hr.deeper _) C.len hsp
  have J : Inv (ncx (L2.CX P w) P w K mg base N L f A outer s H E) [] (startF N [] ws) H { s with heap := h₁, toks := s.toks + (([] : List Str).zip ([] : List Value)).length } :=
    inv_startN (us := []) S hr.hd e0 rfl .nil C hns fun b o e => hsb.extBut b o (Nat.ne_of_lt (Heap.lt_size e)) (Heap.get?_push_of_some _ e)
  refine PySem.W.kla_codeExpr (wpAny_mono (ht.run [] _ _ H Q J hq) (fun v s' q => ?_) fun e s' q => q)
  obtain ⟨v', H', J', rv, q⟩ := q
  exact ⟨v', H', J'.os, J'.bare, J'.base, J'.hok, rv, q⟩
/-- x() in a try, x the first name, a lambda -/
theorem pe_callLam {X : Cx} {W : WX} {x : Str} {p1 p2 : Pos} {ws : List (Option V)} {i : Nat} (G : LGood X.prog X.w X.K X.mg X.base k f L b fr spr) (C : CellsAt L.cl fr ws X.s_0.heap X.H_0) (hex : X.ex = []) (hr : Room k X.A) (tk : Takes X W) (hN : X.N[i]? = some x) (hv : Vis X.env.scope x)
    (hd : (x == ("__debug__" : Str)) = false := by decide) (hcd : (x == ("__classdict__" : Str)) = false := by decide) :
    PE X (.Call (.Name x p1) [] [] p2) (fun σ H Q => σ[i]? = some (some (.ref f)) ∧ H f = some (LamO f L b) ∧ H L.c = some (CodeO L.c L.qual) ∧ spr ws H Q (WE W σ)) := by
  refine ⟨fun pins s σ H Q I ⟨h0, hf, hc, hq⟩ => ?_⟩
  refine wpAny_Call_Name_kw (thn ((pe_var (pos := p1) hN hv hd hcd).run pins s σ H (fun v H1 => v = .ref f ∧ H1 = H) I ⟨.ref f, h0, rfl, rfl⟩) fun u s1 ⟨v, H1, I1, r1, ev, eH⟩ => ?_)
  subst ev
  rw [eH] at I1
  obtain rfl : u = Value.ref f := r1
  obtain ⟨pm, ctv, ho⟩ := lamO_at I1.hok hf
  refine PySem.W.callWith_F0 (first := []) ⟨_, _, _, _, ho⟩ ?_
  refine wpAny_call (codeAny_mono (G X.A X.stack s1 H ws Q (WE W σ) hr I1.env0 hf hc (cells_later C (fun y c _ z => by rw [hex] at z; cases z) I1) hq) fun r s' q => ?_)
  cases r with
  | error e => exact passAt tk σ pins H s1 e s' I1 q
  | ok fl =>
    cases fl with
    | ret u => exact I1.after q
    | next => exact False.elim q
    | brk => exact False.elim q
    | cont => exact False.elim q
/-! ### _law_is_refused -/
theorem scRef : FnScope ["_law_call", "_law_is_refused_here"] ["_law_call"] (defScope (top 19)) := ⟨rfl, rfl, rfl, by decide +kernel, rfl, by decide +kernel, by decide +kernel⟩
theorem refused_run {fd : FuncData} (T : Tx K mg) (F : FnT K "_law_is_refused" 19 fd) {A : Around} {outer : List Env} {s : Shared} {H : Hp} {ws : List (Option V)} {Q : VK} (hr : Room (k + 1) A) (e0 : Env0 P w K mg base A outer s H) (hf : H f = some (LamO f L b)) (hc : H L.c = some (CodeO L.c L.qual))
    (C : CellsAt L.cl fr ws s.heap H) (G : LGood P w K mg base k f L b fr spr) (q : ∀ (Q' : VK) (E' : XK), (∀ v H', Q (.bl false) H' → Q' v H') → (∀ d H', Q (.bl true) H' → E' (CI K) d H') → spr ws H Q' E') :
    codeAny (model P w) A (.call (.ref (He.ga K "_law_is_refused")) ⟨[.ref f], []⟩) (CR CX0 outer P w H s Q E0) s := by
  have hb : Binds K fd ["_law_call"] [] := FunD.bindsN F fun _ _ _ _ _ _ us hl => match us, hl with | [_], _ => rfl
  obtain ⟨oc, od, dV, kV, doc, pm, an, cdv, ct, osl, e, lk, hcd, _, _⟩ := F.ex
  subst e
  refine run_ofS (N := ["_law_call", "_law_is_refused_here"]) (ps := ["_law_call"]) (us := [.ref f]) (vs := [.ref f]) lk hcd scRef hr e0 (hb s [.ref f] (e0.mod.kin.keeps fun b o e => (e0.bs b o e).1) rfl) (.cons rfl .nil) rfl fun hr' => ?_
  refine ⟨_, PSs.nox (pss_cons (ps_set (i := 1) scRef.nd rfl (.inl rfl) pe_bl) (pss_cons (ps_try_only (c := CI K) rfl rfl ⟨rfl, by decide, .inl (T.glo "InvalidKind" (by decide))⟩ L2.takes0
      (fun W pn xe tk _ => pss_one (ps_expr (pe_callLam (i := 0) G C rfl hr' tk rfl (.inl rfl)))) (fun a oe cls d pn _ _ => pss_one (ps_set (i := 1) scRef.nd rfl (.inl rfl) pe_bl)))
    (pss_one (ps_ret (pv 1))))), ?_⟩
  exact ⟨rfl, hf, hc, q _ _ (fun v H' h => ⟨_, rfl, h⟩) fun d H' h => ⟨true, T.mI, fun _ a ha => ⟨_, rfl, h⟩, fun z => nomatch z⟩⟩
end
end Kd
/-! K12: a lambda is made -/
namespace Kd
open PySem PySem.Spec PyProof.Rows L2 LamX NdefX
section
variable {X : Cx} {pins : List (Addr × Obj)} {σ : L2.St} {H : Hp} {s : Shared}
abbrev lamNF (X : Cx) (params : Arguments) (scope : Scope) (c' : Addr) : NF := ⟨"<lambda>", X.env.qual ++ "<lambda>", params, [], scope, cloFrom X.env.cells scope.names [], c'⟩
/-- a lambda's object, just pushed, is known from now on -/
theorem inv_lam {L : NF} {b : Expr} {h1 : Heap} {t' : Nat} {pm ctv : Value} (I : Inv X pins σ H { s with heap := h1, toks := t' }) :
    Inv X pins σ (upd H h1.objs.size (LamO h1.objs.size L b)) { s with heap := h1.push (PySem.W.kla_obj "<lambda>" L.qual L.params b L.scope L.cl pm L.c ctv), toks := t' } := by
  have e : (h1.push (PySem.W.kla_obj "<lambda>" L.qual L.params b L.scope L.cl pm L.c ctv)).get? h1.objs.size = some (PySem.W.kla_obj "<lambda>" L.qual L.params b L.scope L.cl pm L.c ctv) := Heap.get?_push_size _ rfl
  exact I.laid (a := h1.objs.size) (h' := h1.push (PySem.W.kla_obj "<lambda>" L.qual L.params b L.scope L.cl pm L.c ctv)) (t' := t') (fun _ _ z => Heap.get?_push_of_some _ z) (Nat.le_refl _)
    ⟨⟨pm, ctv, e⟩, ⟨_, e⟩, fun g1 g2 ⟨p, t, z⟩ st => ⟨p, t, st _ z⟩⟩
theorem tabS_nt {H' : Hp} {P : Addr} {q : Str} (t : TabS H P q) (n : Nt H H') (e : H' P = H P) : TabS H' P q := by
  obtain ⟨ps, a1, a2, a3⟩ := t
  refine ⟨ps, e.trans a1, a2, fun pos cv z => ?_⟩
  obtain ⟨c0, b1, b2⟩ := a3 pos cv z
  exact ⟨c0, b1, n _ _ b2 codeO_ne⟩
theorem tabS_same {H' : Hp} {P : Addr} {q : Str} (t : TabS H P q) (e : Same H H') : TabS H' P q := t.ext e
/-- the reading -/
def tLm (P : Addr) (q : Str) (mk : Addr → NF) (b : Expr) : TE := fun σ H Q => TabS H P q ∧ ∀ (f c' : Addr) (H1 : Hp), Nt H H1 → (∀ b, H1 b = none → H b = none) → TabS H1 P q → H f = none → H1 f = some (LamO f (mk c') b) → H1 c' = some (CodeO c' q) → Q (.ref f) H1
theorem pe_lam {c P : Addr} {q : Str} {params : Arguments} {b : Expr} {scope : Scope} {pos : Pos} (TB : TabB X.base X.mg c P) (hcode : X.env.code = .ref c) (hq : X.env.qual ++ "<lambda>" = q) (hdef : defaultsOf params X.env = ([], []))
    (hfree : ∀ y ∈ scope.names, y.2 = .free → X.env.scope.names.lookup y.1 = some .cell ∨ X.env.scope.names.lookup y.1 = some .free) : PE X (.Lambda params b scope pos) (tLm P q (lamNF X params scope) b) := by
  subst hq
  refine ⟨fun pins s σ H Q I ⟨hT, h⟩ => ?_⟩
  have hcl : ∀ y ∈ scope.names, y.2 = .free → ∃ a, X.env.cells.lookup y.1 = some a := fun y hy e => (hfree y hy e).elim (fun z => I.ok.has _ (.inl z)) fun z => I.ok.has _ (.inr z)
  obtain ⟨ps, hP, ht, ha⟩ := id hT
  have gP : s.heap.get? P = some { cls := .none, data := .fields ps } := I.hok P _ hP
  refine PySem.W.kla_eval hdef ?_
  cases hc : codeAmong pos ps.toList with
  | some cv =>
    obtain ⟨c', e, hco⟩ := ha pos cv hc
    subst e
    refine PySem.W.kla_makeFunctionHit (mg := X.mg) (c := c) (P := P) (ps := ps) (closure_ok hcl) I.ok.glob (I.mod.glob.keeps I.bk) hcode (TB.code.keeps I.bk) gP ht hc (TB.bm.keeps I.bk) fun ctv h' tk hx hsz => ?_
    have I1 : Inv X pins σ H { s with heap := h', toks := tk } := I.kept hx
    have nF : H h'.objs.size = none := I1.hok.fresh (Nat.le_refl _)
    have sm := same_new (o := LamO h'.objs.size (lamNF X params scope c') b) nF
    exact ⟨.ref h'.objs.size, _, inv_lam (L := lamNF X params scope c') I1, rfl, h _ c' _ (.same sm) (fun b e => upd_none e) (hT.ext sm) nF upd_same (sm _ _ hco)⟩
  | none =>
    refine PySem.W.kla_makeFunction (mg := X.mg) (c := c) (P := P) (ps := ps) (closure_ok hcl) I.ok.glob (I.mod.glob.keeps I.bk) hcode (TB.code.keeps I.bk) gP ht hc TB.gP (TB.bm.keeps I.bk) fun c' ctv h' tk hx hge hlt hrec htb => ?_
    obtain ⟨c2, oc, vs, t, e2, hoc, hd, hv⟩ := hrec
    cases e2
    have nC : H c' = none := I.hok.fresh hge
    have I1 := inv_table (t' := tk) (more := #[rawInt pos.line, rawInt pos.col, .ref c']) (h' := h') (q := X.env.qual ++ "<lambda>") I hP (fun b o hb z => hx b o hb z) htb hge ⟨oc, vs, t, hoc, hd, hv⟩
    have n1 : Nt H (upd (upd H P (.tbl (ps ++ #[rawInt pos.line, rawInt pos.col, .ref c']))) c' (CodeO c' (X.env.qual ++ "<lambda>"))) := fun u o e n => by
      have hu : u ≠ P := fun z => by
        rw [z, hP] at e
        exact n ps (Option.some.inj e).symm
      rw [upd_ne (ne_of_none e nC), upd_ne hu]
      exact e
    have t1 : TabS (upd (upd H P (.tbl (ps ++ #[rawInt pos.line, rawInt pos.col, .ref c']))) c' (CodeO c' (X.env.qual ++ "<lambda>"))) P (X.env.qual ++ "<lambda>") := by
      have eL : (ps ++ #[rawInt pos.line, rawInt pos.col, .ref c']).toList = ps.toList ++ [rawInt pos.line, rawInt pos.col, .ref c'] := by simp
      refine ⟨_, (upd_ne (ne_of_none hP nC)).trans upd_same, by rw [eL]; exact PySem.TriplesOk_snoc _ _ _ _ ht, fun p' cv hcv => ?_⟩
      rw [eL] at hcv
      rcases among_app _ ht hcv with z | z
      · obtain ⟨c0, e1, e2⟩ := ha p' cv z
        exact ⟨c0, e1, n1 _ _ e2 codeO_ne⟩
      · exact ⟨c', z, upd_same⟩
    have nF := I1.hok.fresh (Nat.le_refl h'.objs.size)
    have nF0 : H h'.objs.size = none := I.hok.fresh (Nat.le_trans hge (Nat.le_of_lt hlt))
    have sm := same_new (o := LamO h'.objs.size (lamNF X params scope c') b) nF
    exact ⟨.ref h'.objs.size, _, inv_lam (L := lamNF X params scope c') I1, rfl, h _ c' _ (n1.trans (.same sm)) (fun b e => upd_none (upd_none (upd_none e))) (t1.ext sm) nF0 upd_same (sm _ _ upd_same)⟩
end
end Kd
/-! K13: list(zip(range(0), g)): g never begins -/
namespace Kd
open PySem PySem.Spec PyProof.Rows L2
abbrev zr1 (h : Heap) : Heap := h.push { cls := .type "range_iterator", data := .fields #[rawInt 0, rawInt 0, rawInt 1] }
abbrev zr2 (h : Heap) (ga : Addr) : Heap := (zr1 h).push { cls := .type "tuple", data := .seq #[.ref h.objs.size, .ref ga] }
abbrev zr3 (h : Heap) (ga : Addr) : Heap := (zr2 h ga).push { cls := .type "tuple", data := .seq #[.none, .none] }
abbrev zr4 (h : Heap) (ga : Addr) : Heap := (zr3 h ga).push { cls := .type "zip", data := .fields #[.none, .bool false, .bool false, .ref (zr1 h).objs.size, .ref (zr2 h ga).objs.size] }
theorem meets_zip_rg (r ga : Addr) (g : Nat) (t u v : Tok) :
    Meets (Builtin.«zip.__new__» ⟨[.type "zip", .ref r, .ref ga], []⟩) (fun _ R s => IsRange s.heap r 0 0 1 t u v ∧ s.heap.IsGen ga g ∧ R (.ok (.ret (.ref (zr3 s.heap ga).objs.size))) { s with heap := zr4 s.heap ga }) :=
  .of_wp fun prog w A R s h => by
    obtain ⟨hp, gs, d, tk, os⟩ := s; obtain ⟨hr, hg, h⟩ := h
    have hsub := sub_zip
    have hR : IsRange (Shared.heap ⟨hp, gs, d, tk, os⟩) r 0 0 1 t u v := hr
    have hG : Heap.IsGen (Shared.heap ⟨hp.push { cls := .type "range_iterator", data := .fields #[rawInt 0, rawInt (Builtin.Range.rangeSize 0 0 1), rawInt 1] }, gs, d, tk, os⟩) ga g := hg.keeps fun b o e => Heap.get?_push_of_some _ e
    have hsm : Builtin.Range.small 0 0 1 = true := by decide +kernel
    wp_walk using wpAny_pyIter_range hR hsm, wpAny_pyIter_gen hG
    exact ⟨_, rfl, h⟩
section
variable {prog : Program} {w : World} {A : Around} {E : Value → Shared → Prop} {s : Shared}
/-- the next of an ended range, as zip asks it -/
theorem nextOf_range_end {it : Addr} {x left step : Int} {Q : Value → Shared → Prop} (hh : A.handled = none) (hit : IsRangeIter s.heap it x left step) (hleft : left ≤ 0)
    (hE : ∀ h' e, Heap.ExtBut it s.heap h' → (∃ o, h'.get? e = some o ∧ o.cls = .type "StopIteration") → E (.ref e) { s with heap := h' }) : wpAny (model prog w) A (Builtin.SmallTypes.nextOf (.ref it)) Q E s := by
  have hT : s.TypeIs (.ref it) "range_iterator" := ⟨_, hit, rfl⟩
  unfold Builtin.SmallTypes.nextOf
  refine wpAny_bind (wpAny_callSpecial?_slot (name := Str.ofString "__next__") hT F.slot_range_iterator_next
    (wpAny_call_entry F.slot_range_iterator_next hT F.entry_range_iterator_next ?_ (F.args_range_iterator_next_1 _)))
  show wpAny _ _ (field (.ref it) 0 >>= _) _ _ s
  refine wpAny_bind (wpAny_field hit rfl (x := rawInt x) rfl ?_)
  show wpAny _ _ (field (.ref it) 1 >>= _) _ _ s
  refine wpAny_bind (wpAny_field hit rfl (x := rawInt left) rfl ?_)
  show wpAny _ _ (field (.ref it) 2 >>= _) _ _ s
  refine wpAny_bind (wpAny_field hit rfl (x := rawInt step) rfl ?_)
  show wpAny _ _ (if left ≤ 0 then _ else _) _ _ s
  rw [if_pos hleft]
  refine wpAny_bind (wpAny_rule ?_)
  refine wpAny_bind ?_
  show wpAny _ _ (newExc (.type "StopIteration") [] >>= _) _ _ _
  refine wpAny_bind ?_
  simp only [newExc, newTuple]
  refine wpAny_bind (wpAny_newObj_type ?_ (by size_fits))
  refine wpAny_bind (m := firstArgMember _ _) (wpAny_of_eq (a := Value.none) (by first | rfl | (simp only [firstArgMember]; rfl)) ?_)
  refine wpAny_newObj_type ?_ (by size_fits)
  simp only [raiseNew]
  refine wpAny_bind (wpAny_handled ?_)
  first | rw [show A.in1.handled = none from hh] | rw [hh]
  refine wpAny_bind (wpAny_pure (wpAny_throw ?_))
  exact hE _ _ (((Heap.ExtBut.refl it s.heap).push _).push _) ⟨_, Heap.get?_push_size _ rfl, rfl⟩
theorem zip_stops {z TI TO i1 ga : Addr} {x step : Int} {Q : Fin → Shared → Prop} (hh : A.handled = none) (hz : IsZip s.heap z TI TO .none) (hTI : IsPair s.heap TI (.ref i1) (.ref ga)) (hi : IsRangeIter s.heap i1 x 0 step)
    (hE : ∀ h' e, (∀ c o, c ≠ z → c ≠ i1 → s.heap.get? c = some o → h'.get? c = some o) → (∃ o, h'.get? e = some o ∧ o.cls = .type "StopIteration") → E (.ref e) { s with heap := h' }) :
    wpAny (model prog w) A (Builtin.«zip.__next__» ⟨[.ref z], []⟩) Q E s := by
  have i1z : i1 ≠ z := fun e => by
    rw [e] at hi
    have q : Value.type "range_iterator" = Value.type "zip" := congrArg Obj.cls (Option.some.inj (hi.symm.trans hz))
    exact absurd (Value.type.inj q) (by decide)
  show wpAny _ _ (field (.ref z) 2 >>= _) _ _ _
  refine wpAny_bind (wpAny_field hz rfl (x := .bool false) rfl ?_)
  show wpAny _ _ (field (.ref z) 3 >>= _) _ _ _
  refine wpAny_bind (wpAny_field hz rfl (x := .ref TI) rfl ?_)
  refine wpAny_bind (wpAny_seqItems hTI rfl ?_)
  show wpAny _ _ (Builtin.SmallTypes.ownedTupleIsFree (.ref z) >>= _) _ _ _
  refine wpAny_bind ?_
  unfold Builtin.SmallTypes.ownedTupleIsFree
  refine wpAny_bind (wpAny_field hz rfl (x := .none) rfl (wpAny_pure ?_))
  simp only [if_true]
  refine wpAny_bind (wpAny_rule ?_)
  refine wpAny_bind (wpAny_field hz rfl (x := .ref TO) rfl ?_)
  refine wpAny_bind (wpAny_setField_rec hz (by simp) fun h₁ hz₁ hs₁ => ?_)
  replace hz₁ : IsZip h₁ z TI TO .ellipsis := hz₁
  refine wpAny_bind ?_
  simp only [List.zipIdx_cons, List.zipIdx_nil, List.forIn_cons, List.forIn_nil]
  refine wpAny_bind (wpAny_bind (wpAny_onRaise ?_))
  show wpAny _ _ (Builtin.SmallTypes.nextOf (.ref i1) >>= _) _ _ _
  refine wpAny_bind (nextOf_range_end hh (show IsRangeIter h₁ i1 x 0 step from hs₁.extBut _ _ i1z hi) (Int.le_refl 0) fun h₂ e hs₂ he => ?_)
  obtain ⟨oe, hoe, hce⟩ := he
  have hz₂ : IsZip h₂ z TI TO .ellipsis := hs₂ _ _ i1z.symm hz₁
  have hez : e ≠ z := fun x => by
    subst x
    rw [hz₂] at hoe
    cases hoe
    simp at hce
  exact wpAny_setField_rec hz₂ (by simp) fun h₃ _ hs₃ => hE h₃ e (fun c o c1 c2 y => hs₃.extBut _ _ c1 (hs₂ _ _ c2 (hs₁.extBut _ _ c1 y))) ⟨oe, hs₃.extBut _ _ hez hoe, hce⟩
theorem pyNext_zip_stops {z TI TO i1 ga : Addr} {x step : Int} {Q : Option Value → Shared → Prop} (hh : A.handled = none) (hz : IsZip s.heap z TI TO .none) (hTI : IsPair s.heap TI (.ref i1) (.ref ga)) (hi : IsRangeIter s.heap i1 x 0 step)
    (hQ : ∀ h', (∀ c o, c ≠ z → c ≠ i1 → s.heap.get? c = some o → h'.get? c = some o) → Q none { s with heap := h' }) : wpAny (model prog w) A (pyNext (.ref z)) Q E s := by
  have hT : s.TypeIs (.ref z) "zip" := ⟨_, hz, rfl⟩
  unfold pyNext
  refine wpAny_bind (wpAny_attempt (wpAny_callSpecial?_slot (name := Str.ofString "__next__") hT F.slot_zip_next
    (wpAny_call_entry F.slot_zip_next hT F.entry_zip_next (zip_stops hh hz hTI hi fun h' e hk he => ?_) (F.args_zip_next_1 _))))
  obtain ⟨o, ho, hc⟩ := he
  refine wpAny_bind (wpAny_isInstance (T := "StopIteration") (b := true) ⟨o, ho, hc⟩ isSubtype_stop ?_)
  exact wpAny_pure (hQ _ hk)
theorem zip_no_len : typeLookup (.type "zip") "__len__" = pure none := by rw [typeLookup_type, builtinLookup_eq_fast]; kernel_rfl
theorem zip_no_hint : typeLookup (.type "zip") "__length_hint__" = pure none := by rw [typeLookup_type, builtinLookup_eq_fast]; kernel_rfl
theorem list_of_zip0 {z TI TO i1 ga : Addr} {x step : Int} {Q : Value → Shared → Prop} (hh : A.handled = none) (hz : IsZip s.heap z TI TO .none) (hTI : IsPair s.heap TI (.ref i1) (.ref ga)) (hi : IsRangeIter s.heap i1 x 0 step)
    (hQ : ∀ h' c, (∀ b o, b ≠ z → b ≠ i1 → s.heap.get? b = some o → h'.get? b = some o) → h'.get? s.heap.objs.size = some (lstObj #[] c) → Q (.ref s.heap.objs.size) { s with heap := h' }) : wpAny (model prog w) A (call (.type "list") [.ref z]) Q E s := by
  have lz : z < s.heap.objs.size := Heap.lt_size hz
  have hSz : s.heap.objs.size ≠ z := Nat.ne_of_gt lz
  have hSi : s.heap.objs.size ≠ i1 := Nat.ne_of_gt (Heap.lt_size hi)
  refine callType_codes (Q₁ := fun obj s₁ => obj = .ref s.heap.objs.size ∧ s₁ = { s with heap := s.heap.push { cls := .type "list", data := .seq #[] } }) F.called_list (F.typeCall_list_1 _) F.entry_list_init (code_list_new _ ⟨rfl, rfl⟩) fun obj s₁ h₁ => ?_
  obtain ⟨rfl, rfl⟩ := h₁
  have hS : (s.heap.push { cls := .type "list", data := .seq #[] }).get? s.heap.objs.size = some { cls := .type "list", data := .seq #[] } := Heap.get?_push_size _ rfl
  refine ⟨⟨_, hS, rfl⟩, F.args_list_init_2 _ _, ?_⟩
  show wpAny _ A.in1.in1 (do let old ← Builtin.List.listItems (.ref s.heap.objs.size); Builtin.List.listUpdate (.ref s.heap.objs.size) (fun _ => #[]); letGo old.toList.reverse; Builtin.List.listExtendWith (.ref s.heap.objs.size) (.ref z) .none) _ _ _
  refine wpAny_bind ?_
  unfold Builtin.List.listItems
  refine wpAny_bind (wpAny_seqItems hS rfl (wpAny_pure ?_))
  show wpAny _ A.in1.in1 (updateSeq s.heap.objs.size (fun _ => #[]) >>= fun _ => letGo (#[] : Array Value).toList.reverse >>= fun _ => Builtin.List.listExtendWith (.ref s.heap.objs.size) (.ref z) .none) _ _ _
  refine wpAny_bind (wpAny_updateSeq hS rfl ?_)
  have hS2 := Heap.get?_update_self (Obj.mapSeq (fun _ => (#[] : Array Value))) hS rfl
  refine wpAny_bind (wpAny_letGo ?_)
  unfold Builtin.List.listExtendWith
  have up : ∀ (h : Heap) (f : Obj → Obj), (∀ b o, s.heap.get? b = some o → h.get? b = some o) → ∀ b o, s.heap.get? b = some o → (h.update s.heap.objs.size f).get? b = some o := fun h f q b o e =>
    (Heap.get?_update_other _ _ (Ne.symm (Nat.ne_of_lt (Heap.lt_size e)))).trans (q b o e)
  have k1 : ∀ b o, s.heap.get? b = some o → (s.heap.push { cls := .type "list", data := .seq #[] }).get? b = some o := fun b o e => Heap.get?_push_of_some _ e
  have k2 := up _ (Obj.mapSeq (fun _ => (#[] : Array Value))) k1
  have ty : ∀ {h : Heap}, (∀ b o, s.heap.get? b = some o → h.get? b = some o) → Shared.TypeIs { s with heap := h } (.ref z) "zip" := fun {h} q => ⟨_, q _ _ hz, rfl⟩
  refine wpAny_bind (wpAny_typeOf (ty k2) ?_)
  have h1 : Builtin.List.listSameRef (.ref s.heap.objs.size) (.ref z) = false := by simp [Builtin.List.listSameRef, hSz]
  have h2 : (Value.type "zip" == Value.type "list") = false := by decide
  have h3 : (Value.type "zip" == Value.type "tuple") = false := by decide
  simp only [h1, h2, h3, Bool.or_false, Bool.false_eq_true, if_false]
  refine wpAny_bind (wpAny_pyIter_zip (s := { s with heap := _ }) (k2 _ _ hz) ?_)
  refine wpAny_bind (wpAny_holding ?_)
  unfold Builtin.List.listLengthHint
  refine wpAny_bind (wpAny_specialOf (ty k2) zip_no_len ?_)
  show wpAny _ A.in1.in1 (specialOf (Value.ref z) (Str.ofString "__length_hint__") >>= _) _ _ _
  refine wpAny_bind (wpAny_specialOf (ty k2) zip_no_hint ?_)
  refine wpAny_pure ?_
  show wpAny _ A.in1.in1 (rule "list.extend.makes-room" >>= fun _ => Builtin.List.listTouch (.ref s.heap.objs.size) >>= fun _ =>
    again (.builtin "list.extend.loop" ⟨[.ref s.heap.objs.size, .ref z, .none], []⟩)) _ _ _
  refine wpAny_bind (wpAny_rule ?_)
  refine wpAny_bind ?_
  show wpAny _ A.in1.in1 (updateSeq s.heap.objs.size (·.push .none) >>= fun _ => updateSeq s.heap.objs.size (·.pop)) _ _ _
  refine wpAny_bind (wpAny_updateSeq hS2 rfl ?_)
  have hS3 := Heap.get?_update_self (Obj.mapSeq (·.push Value.none)) hS2 rfl
  refine wpAny_updateSeq (hz := by seq_fits) hS3 rfl ?_
  have hS4 := Heap.get?_update_self (Obj.mapSeq (·.pop)) hS3 rfl
  have k4 := up _ (Obj.mapSeq (·.pop)) (up _ (Obj.mapSeq (·.push Value.none)) k2)
  refine wpAny_pure ⟨plainId_quiet F.plain_extend_loop _, codeAny_builtin F.entry_extend_loop ?_⟩
  rw [Around.under_plainId F.plain_extend_loop _]
  show wpAny _ A.in1.in1 (pyNext (.ref z) >>= _) _ _ _
  refine wpAny_bind (pyNext_zip_stops (s := { s with heap := _ }) hh (k4 _ _ hz) (k4 _ _ hTI) (k4 _ _ hi) fun h' hk => wpAny_pure ?_)
  exact ⟨rfl, hQ h' _ (fun b o n1 n2 e => hk b o n1 n2 (k4 b o e)) (hk _ _ hSz hSi hS4)⟩
end
end Kd
/-! K13b: list(zip(range(0), g)) as an expression -/
namespace Kd
open PySem PySem.Spec PyProof.Rows L2 GenW
section
variable {X : Cx} {k : Nat} {e2 : Expr} {t : L2.St → Hp → (List V → V → Hp → Prop) → (List V → Hp → Prop) → (Hp → Prop) → Prop} {E : XK} {p1 p2 p3 p4 p5 p6 p7 : Pos} {j : Nat}
/-- as PMd; R of the heap at the generator's making -/
structure PMdR (X : Cx) (k : Nat) (e : Expr) (t : L2.St → Hp → (List V → V → Hp → Prop) → (List V → Hp → Prop) → (Hp → Prop) → Prop) (E : XK) : Prop where
  run : ∀ (pins : List (Addr × Obj)) (s : Shared) (σ : L2.St) (H : Hp) (Yd : List V → V → Hp → Prop) (Q : List V → Hp → Prop) (R : Hp → Prop), Inv X pins σ H s → t σ H Yd Q R → wpAny (model X.prog X.w) X.A (eval e X.env)
    (fun u s' => ∃ H1 sc, Inv X pins σ H1 sc ∧ Made X.prog X.w k X.stack H1 sc Yd Q E u s' ∧ R H1) X.xe s
theorem pmdr_callK {f : Addr} {fd : FuncData} {ps ks : List Str} {sp : SpJ} {x : Str} {p pos : Pos} {kws : List Keyword} {tk : TA} {g : List Value → List Value → List Value} {gV : List V → List V → List V} (F : JFn X.prog X.w X.K X.mg X.base k f fd ps sp) (hr : Room k X.A) (hg : Gl X x) (hm : X.mg x = some (.ref f)) (hk : PySem.W.keepIn X.K (.ref f) = true) (hb : KBn X.K fd ps 0 ks g gV)
    (hkw : PK X kws tk) (hall : (backToKw pos (keywordEach kws X.env)).all (·.1.isSome) = true := by rfl) (hks : (backToKw pos (keywordEach kws X.env)).filterMap (·.1) = ks := by rfl)
    (hdb : (x == ("__debug__" : Str)) = false := by decide) (hpl : ((backTo pos (starEach [] X.env)).any (·.1) || (backToKw pos (keywordEach kws X.env)).any (·.1.isNone)) = false := by rfl) :
    PMdR X k (.Call (.Name x p) [] kws pos) (fun σ H Yd Q R => tk σ H fun zs H2 => zs.length = ks.length ∧ sp (gV [] zs) H2 Yd Q E ∧ R H2) E := by
  refine ⟨fun pins s σ H Yd Q R I h => ?_⟩
  refine wpAny_Call_Name_kw (ld_glob I hg hm ?_ hdb)
  refine PySem.W.callWith_KW0 (h₀ := X.base) I.ok.mod.kin hk hall (thn (hkw.run pos pins s σ H _ I h) fun ws s2 ⟨zs, H2, I2, rz, l2, q, hR⟩ => ⟨I2.kIn, ?_⟩) hpl
  rw [hks]
  have r2 : Vals (gV [] zs) (g [] ws) := hb.rel .nil rz
  refine wpAny_call (codeAny_mono (F.run X.A X.stack s2 H2 ⟨[], ks.zip ws⟩ (g [] ws) (gV [] zs) Yd Q E hr I2.env0 (hb.to s2 [] ws I2.kIn rfl (rz.length.symm.trans l2)) r2 q) fun r s' hq => ?_)
  cases r with
  | error e => exact False.elim hq
  | ok fl =>
    cases fl with
    | ret u => exact ⟨H2, s2, I2, hq, hR⟩
    | next => exact False.elim hq
    | brk => exact False.elim hq
    | cont => exact False.elim hq
theorem pe_zip0 (h : PMdR X k e2 t E) (hc : X.calm = true) (gl : Gl X "list") (ml : X.mg "list" = none) (gz : Gl X "zip") (mz : X.mg "zip" = none) (gr : Gl X "range") (mr : X.mg "range" = none)
    (he2 : starEach [e2] X.env = (false, eval e2 X.env) :: starEach [] X.env := by rfl) :
    PE X (.Call (.Name "list" p1) [.Call (.Name "zip" p2) [.Call (.Name "range" p3) [.Constant (.int 0) j p4] [] p5, e2] [] p6] [] p7)
      (fun σ H Q => ∃ Yd cont, t σ H Yd cont fun H1 => ∀ p, H1 p = none → Q (.ref p) (upd H1 p (.lst []))) := by
  refine ⟨fun pins s σ H Q I hq => ?_⟩
  obtain ⟨Yd, cont, ht⟩ := hq
  -- the zip object
  refine wpAny_Call_Name_kw (ld_blt I gl ml PyProof.Rows.boot_list ?_)
  refine PyProof.Rows.callWith_type1 ?_ rfl rfl
  show wpAny _ _ (spliced ((false, eval (.Call (.Name "zip" p2) [.Call (.Name "range" p3) [.Constant (.int 0) j p4] [] p5, e2] [] p6) X.env) :: backTo p7 (starEach [] X.env))) _ _ s
  refine Calls.spliced_cons ?_
  refine wpAny_Call_Name_kw (ld_blt I gz mz PyProof.Rows.boot_zip ?_)
  refine PyProof.Rows.callWith_type1 ?_ rfl (by rw [he2]; rfl)
  show wpAny _ _ (spliced ((false, eval (.Call (.Name "range" p3) [.Constant (.int 0) j p4] [] p5) X.env) :: backTo p6 (starEach [e2] X.env))) _ _ s
  refine Calls.spliced_cons ?_
  -- the range
  refine wpAny_Call_Name_kw (ld_blt I gr mr PyProof.Rows.boot_range ?_)
  refine PyProof.Rows.callWith_type1 ?_ rfl rfl
  show wpAny _ _ (spliced ((false, eval (.Constant (.int 0) j p4) X.env) :: backTo p5 (starEach [] X.env))) _ _ s
  refine Calls.spliced_cons (thn ((pe_int (X := X) (i := 0)).run pins s σ H (fun v H1 => v = .int 0 ∧ H1 = H) I ⟨rfl, rfl⟩) fun u s1 ⟨v, H1, I1, r1, ev, eH⟩ => ?_)
  subst ev
  rw [eH] at I1
  obtain ⟨tk, rfl⟩ := r1
  refine Calls.spliced_nil ?_
  refine call_range_1 ?_
  have hr : IsRange (s1.heap.push { cls := .type "range", data := .fields #[.int 0 s1.toks, .int 0 tk, .int 1 (s1.toks + 1)] }) s1.heap.objs.size 0 0 1 s1.toks tk (s1.toks + 1) := IsRange.new _ _ _ _ _ _ _
  have I2 : Inv X pins σ H { s1 with heap := s1.heap.push { cls := .type "range", data := .fields #[.int 0 s1.toks, .int 0 tk, .int 1 (s1.toks + 1)] }, toks := s1.toks + 1 + 1 } := I1.kept fun b o e => Heap.get?_push_of_some _ e
  have fR : FpOk X pins H s1.heap.objs.size := I1.fpOk (Nat.le_refl _) (I1.hok.fresh (Nat.le_refl _))
  have I3 : Inv X (pins ++ pinsAt [s1.heap.objs.size] (s1.heap.push { cls := .type "range", data := .fields #[.int 0 s1.toks, .int 0 tk, .int 1 (s1.toks + 1)] })) σ H { s1 with heap := s1.heap.push { cls := .type "range", data := .fields #[.int 0 s1.toks, .int 0 tk, .int 1 (s1.toks + 1)] }, toks := s1.toks + 1 + 1 } :=
    I2.pinned (fp := [s1.heap.objs.size]) (fun b hb => by rw [show b = _ from by simpa using hb]; exact fR) fun b hb => by
      rw [show b = s1.heap.objs.size from by simpa using hb]
      exact ⟨_, hr, fun v z => nomatch z⟩
  have hp := mem_pinsAt (fp := [s1.heap.objs.size]) (b := s1.heap.objs.size) (List.mem_singleton.mpr rfl) hr
  rw [he2]
  show wpAny _ _ (spliced ((false, eval e2 X.env) :: backTo p6 (starEach [] X.env))) _ _ _
  refine Calls.spliced_cons (thn (h.run _ _ σ H _ _ _ I3 ht) fun u s2 ⟨H1, sc, I4, hM, hQ⟩ => ?_)
  obtain ⟨ga, g, c, rfl, _, _, hg, _, os2, bare2, _, kp2, _⟩ := hM
  have hr4 := (I4.pin _ (List.mem_append_right _ (List.mem_append_right _ hp))).1
  have I5 : Inv X pins σ H1 s2 := (I4.unpinned).call' (ch := []) os2 (Un.kept kp2) (I4.hok.kept kp2) bare2 fun b hb => absurd hb (by simp)
  have hr5 : IsRange s2.heap s1.heap.objs.size 0 0 1 s1.toks tk (s1.toks + 1) := kp2 _ _ hr4
  clear I4 hr4 I3 kp2 ht
  refine Calls.spliced_nil ?_
  refine callType_new F.called_zip (by decide) (F.typeCall_zip_2 _ _) (F.newCall_zip_2 _ _) (fun obj => F.args_object_init_3 obj _ _) F.entry_zip_new (meets_zip_rg s1.heap.objs.size ga g s1.toks tk (s1.toks + 1)) ⟨hr5, hg, ?_⟩
  have z1 : (zr1 s2.heap).objs.size = s2.heap.objs.size + 1 := Heap.size_push ..
  have z2 : (zr2 s2.heap ga).objs.size = s2.heap.objs.size + 2 := by rw [Heap.size_push, z1]
  have z3 : (zr3 s2.heap ga).objs.size = s2.heap.objs.size + 3 := by rw [Heap.size_push, z2]
  have g4 : (zr4 s2.heap ga).get? (zr3 s2.heap ga).objs.size = some _ := Heap.get?_push_size _ rfl
  have g2 : (zr4 s2.heap ga).get? (zr1 s2.heap).objs.size = some _ := Heap.get?_push_of_some _ (Heap.get?_push_of_some _ (Heap.get?_push_size _ rfl))
  have g1 : (zr4 s2.heap ga).get? s2.heap.objs.size = some _ := Heap.get?_push_of_some _ (Heap.get?_push_of_some _ (Heap.get?_push_of_some _ (Heap.get?_push_size _ rfl)))
  have k4 : ∀ b o, s2.heap.get? b = some o → (zr4 s2.heap ga).get? b = some o := fun b o e => Heap.get?_push_of_some _ (Heap.get?_push_of_some _ (Heap.get?_push_of_some _ (Heap.get?_push_of_some _ e)))
  have I6 : Inv X pins σ H1 { s2 with heap := zr4 s2.heap ga } := I5.kept (t' := s2.toks) k4
  have fz : FpOk X pins H1 (zr3 s2.heap ga).objs.size := I5.fpOk (by rw [z3]; omega) (I5.hok.fresh (by rw [z3]; omega))
  have fi : FpOk X pins H1 s2.heap.objs.size := I5.fpOk (Nat.le_refl _) (I5.hok.fresh (Nat.le_refl _))
  have tz : Shared.TypeIs { s2 with heap := zr4 s2.heap ga } (.ref (zr3 s2.heap ga).objs.size) "zip" := ⟨_, g4, rfl⟩
  refine ⟨tz, ?_⟩
  refine Calls.spliced_nil ?_
  refine list_of_zip0 (s := { s2 with heap := zr4 s2.heap ga }) (I6.ok.hd hc) g4 g2 g1 fun h' c' kh hS => ?_
  have nS : H1 (zr4 s2.heap ga).objs.size = none := I6.hok.fresh (Nat.le_refl _)
  have I7 : Inv X pins σ (upd H1 (zr4 s2.heap ga).objs.size (.lst [])) { s2 with heap := h' } :=
    I6.turnedNew (t' := s2.toks) (ch := [(zr3 s2.heap ga).objs.size, s2.heap.objs.size]) (fun b o hb e => kh b o (fun z => hb (by simp [z])) (fun z => hb (by simp [z])) e)
      (fun b hb => by
        rcases List.mem_cons.mp hb with z | z
        · rw [z]; exact fz
        · rw [show b = _ from by simpa using z]; exact fi) (Nat.le_refl _) ⟨Nat.zero_le _, [], c', .nil, hS⟩
  exact ⟨.ref (zr4 s2.heap ga).objs.size, _, I7, rfl, hQ _ nS⟩
end
end Kd
/-! K14: the eight lambdas -/
namespace Kd
open PySem PySem.Spec PyProof.Rows L2 LamX NdefX
abbrev noArgs : Arguments := { posonlyargs := [], args := [], vararg := none, kwonlyargs := [], kw_defaults := [], kwarg := none, defaults := [] }
abbrev lsc (fr gl : List Str) : Scope := { kind := .function, names := fr.map (fun x => (x, .free)) ++ gl.map (fun x => (x, .globalImplicit)), isGenerator := false, isCoroutine := false, more := [] }
abbrev kh : Str := "_law_kind_here"
abbrev wr : Str := "_law_wrong"
abbrev lnf (q : Str) (sc : Scope) (cl : List (Str × Addr)) (c' : Addr) : NF := ⟨"<lambda>", q, noArgs, [], sc, cl, c'⟩
/-- refused: of a kind and what is none (b: not None) -/
def spR2 (K : PySem.W.Frag) (b : Bool) : SpL := fun ws H _ E => ∃ kv wv, ws = [some kv, some wv] ∧ (∃ k, KindAt K H kv k) ∧ NotKind H wv ∧ (b = true → wv ≠ .non) ∧ ∀ H', Same H H' → E (CI K) none H'
def spR1 (K : PySem.W.Frag) (b : Bool) : SpL := fun ws H _ E => ∃ wv, ws = [some wv] ∧ NotKind H wv ∧ (b = true → wv ≠ .non) ∧ ∀ H', Same H H' → E (CI K) none H'
/-- not refused -/
def spR0 : SpL := fun ws H Q _ => ∃ wv, ws = [some wv] ∧ NotKind H wv ∧ wv ≠ .non ∧ ∀ v H', Same H H' → Q v H'
theorem ns2 : ∀ gl ∈ ([["is_as_loose"], ["list", "kinds"]] : List (List Str)), NScope [kh, wr] [] [kh, wr] (lsc [kh, wr] gl) := fun gl h => nscope_by ((by decide +kernel : ∀ gl ∈ ([["is_as_loose"], ["list", "kinds"]] : List (List Str)), nscB [kh, wr] [] [kh, wr] (lsc [kh, wr] gl) = true) gl h)
theorem ns1 : ∀ gl ∈ ([["is_as_loose"], ["list", "kinds"], ["list", "zip", "range", "kinds"]] : List (List Str)), NScope [wr] [] [wr] (lsc [wr] gl) := fun gl h => nscope_by ((by decide +kernel : ∀ gl ∈ ([["is_as_loose"], ["list", "kinds"], ["list", "zip", "range", "kinds"]] : List (List Str)), nscB [wr] [] [wr] (lsc [wr] gl) = true) gl h)
section
variable {P : Program} {w : World} {K : PySem.W.Frag} {mg : Str → Option Value} {base : Heap} {q : Str} {cl : List (Str × Addr)} {c' f : Addr} {p1 p2 p3 p4 p5 p6 p7 p8 p9 p10 p11 : Pos} {j : Nat}
theorem lg_wk (h : Has P w K mg base (L2.CX P w) 3 "is_as_loose" ["kind", "other"] (spLoose K)) :
    LGood P w K mg base 8 f (lnf q (lsc [kh, wr] ["is_as_loose"]) cl c') (.Call (.Name "is_as_loose" p1) [.Name "_law_wrong" p2, .Name "_law_kind_here" p3] [] p4) [kh, wr] (spR2 K false) :=
  lgood_of (N := [kh, wr]) (ns2 _ (by decide)) (fun _ _ => rfl) fun A outer s H ws Q E hr hl z => ⟨_, pe_has h hr (passes_call (takes_of rfl rfl rfl rfl) (E := E) (fun _ _ _ _ z => z)) (pa_cons (pv 1) (pa_cons (pv 0) pa_nil)), by
    obtain ⟨kv, wv, rfl, ⟨k, hk⟩, hn, _, e⟩ := z
    exact ⟨_, rfl, _, rfl, _, _, rfl, .inr ⟨.inl hn, e H (Same.refl H)⟩⟩⟩
theorem lg_kw (h : Has P w K mg base (L2.CX P w) 3 "is_as_loose" ["kind", "other"] (spLoose K)) :
    LGood P w K mg base 8 f (lnf q (lsc [kh, wr] ["is_as_loose"]) cl c') (.Call (.Name "is_as_loose" p1) [.Name "_law_kind_here" p2, .Name "_law_wrong" p3] [] p4) [kh, wr] (spR2 K false) :=
  lgood_of (N := [kh, wr]) (ns2 _ (by decide)) (fun _ _ => rfl) fun A outer s H ws Q E hr hl z => ⟨_, pe_has h hr (passes_call (takes_of rfl rfl rfl rfl) (E := E) (fun _ _ _ _ z => z)) (pa_cons (pv 0) (pa_cons (pv 1) pa_nil)), by
    obtain ⟨kv, wv, rfl, ⟨k, hk⟩, hn, _, e⟩ := z
    exact ⟨_, rfl, _, rfl, _, _, rfl, .inr ⟨.inr ⟨k, hk, hn⟩, e H (Same.refl H)⟩⟩⟩
theorem lg_ww (h : Has P w K mg base (L2.CX P w) 3 "is_as_loose" ["kind", "other"] (spLoose K)) :
    LGood P w K mg base 8 f (lnf q (lsc [wr] ["is_as_loose"]) cl c') (.Call (.Name "is_as_loose" p1) [.Name "_law_wrong" p2, .Name "_law_wrong" p3] [] p4) [wr] (spR1 K false) :=
  lgood_of (N := [wr]) (ns1 _ (by decide)) (fun _ _ => rfl) fun A outer s H ws Q E hr hl z => ⟨_, pe_has h hr (passes_call (takes_of rfl rfl rfl rfl) (E := E) (fun _ _ _ _ z => z)) (pa_cons (pv 0) (pa_cons (pv 0) pa_nil)), by
    obtain ⟨wv, rfl, hn, _, e⟩ := z
    exact ⟨_, rfl, _, rfl, _, _, rfl, .inr ⟨.inl hn, e H (Same.refl H)⟩⟩⟩
theorem stopE (T : Tx K mg) (E : XK) : NoStop K (fun cls d H => cls = CI K ∧ E cls d H) := noStop_inv T fun _ _ _ z => z.1
theorem lg_LkMw (T : Tx K mg) (G : HasG P w K mg base) :
    LGood P w K mg base 8 f (lnf q (lsc [kh, wr] ["list", "kinds"]) cl c') (.Call (.Name "list" p1) [.Call (.Name "kinds" p2) [] [⟨some "least", .Name "_law_kind_here" p3, p4⟩, ⟨some "most", .Name "_law_wrong" p5, p6⟩] p7] [] p8) [kh, wr] (spR2 K true) :=
  lgood_of (N := [kh, wr]) (ns2 _ (by decide)) (fun _ _ => rfl) fun A outer s H ws Q E hr hl z => ⟨_, pe_lkLM (E := fun cls d H => cls = CI K ∧ E cls d H) G hr (passes_call (takes_of rfl rfl rfl rfl) (fun _ _ _ _ z => z.2)) (stopE T E) (T.fre "list" (by decide)) (pv 0) (pv 1), by
    obtain ⟨kv, wv, rfl, ⟨k, hk⟩, hn, ne, e⟩ := z
    exact ⟨_, rfl, _, rfl, .inr ⟨.inr ⟨⟨some k, .inr ⟨k, hk, rfl⟩⟩, hn, ne rfl⟩, fun H' sm => ⟨rfl, e H' sm⟩⟩⟩⟩
theorem lg_MkLw (T : Tx K mg) (G : HasG P w K mg base) :
    LGood P w K mg base 8 f (lnf q (lsc [kh, wr] ["list", "kinds"]) cl c') (.Call (.Name "list" p1) [.Call (.Name "kinds" p2) [] [⟨some "most", .Name "_law_kind_here" p3, p4⟩, ⟨some "least", .Name "_law_wrong" p5, p6⟩] p7] [] p8) [kh, wr] (spR2 K true) :=
  lgood_of (N := [kh, wr]) (ns2 _ (by decide)) (fun _ _ => rfl) fun A outer s H ws Q E hr hl z => ⟨_, pe_lkML (E := fun cls d H => cls = CI K ∧ E cls d H) G hr (passes_call (takes_of rfl rfl rfl rfl) (fun _ _ _ _ z => z.2)) (stopE T E) (T.fre "list" (by decide)) (pv 0) (pv 1), by
    obtain ⟨kv, wv, rfl, ⟨k, hk⟩, hn, ne, e⟩ := z
    exact ⟨_, rfl, _, rfl, .inr ⟨.inl ⟨hn, ne rfl⟩, fun H' sm => ⟨rfl, e H' sm⟩⟩⟩⟩
theorem lg_Lw (T : Tx K mg) (G : HasG P w K mg base) :
    LGood P w K mg base 8 f (lnf q (lsc [wr] ["list", "kinds"]) cl c') (.Call (.Name "list" p1) [.Call (.Name "kinds" p2) [] [⟨some "least", .Name "_law_wrong" p5, p6⟩] p7] [] p8) [wr] (spR1 K true) :=
  lgood_of (N := [wr]) (ns1 _ (by decide)) (fun _ _ => rfl) fun A outer s H ws Q E hr hl z => ⟨_, pe_lkL (E := fun cls d H => cls = CI K ∧ E cls d H) G hr (passes_call (takes_of rfl rfl rfl rfl) (fun _ _ _ _ z => z.2)) (stopE T E) (T.fre "list" (by decide)) (pv 0), by
    obtain ⟨wv, rfl, hn, ne, e⟩ := z
    exact ⟨_, rfl, .inr ⟨.inl ⟨hn, ne rfl⟩, fun H' sm => ⟨rfl, e H' sm⟩⟩⟩⟩
theorem lg_Mw (T : Tx K mg) (G : HasG P w K mg base) :
    LGood P w K mg base 8 f (lnf q (lsc [wr] ["list", "kinds"]) cl c') (.Call (.Name "list" p1) [.Call (.Name "kinds" p2) [] [⟨some "most", .Name "_law_wrong" p5, p6⟩] p7] [] p8) [wr] (spR1 K true) :=
  lgood_of (N := [wr]) (ns1 _ (by decide)) (fun _ _ => rfl) fun A outer s H ws Q E hr hl z => ⟨_, pe_lkM (E := fun cls d H => cls = CI K ∧ E cls d H) G hr (passes_call (takes_of rfl rfl rfl rfl) (fun _ _ _ _ z => z.2)) (stopE T E) (T.fre "list" (by decide)) (pv 0), by
    obtain ⟨wv, rfl, hn, ne, e⟩ := z
    exact ⟨_, rfl, .inr ⟨.inr ⟨⟨none, .inl ⟨rfl, rfl⟩⟩, hn, ne rfl⟩, fun H' sm => ⟨rfl, e H' sm⟩⟩⟩⟩
theorem lg_zip (T : Tx K mg) (G : HasG P w K mg base) :
    LGood P w K mg base 8 f (lnf q (lsc [wr] ["list", "zip", "range", "kinds"]) cl c') (.Call (.Name "list" p1) [.Call (.Name "zip" p2) [.Call (.Name "range" p3) [.Constant (.int 0) j p4] [] p5, .Call (.Name "kinds" p6) [] [⟨some "least", .Name "_law_wrong" p7, p8⟩] p9] [] p10] [] p11) [wr] spR0 := by
  obtain ⟨fd, J, kp', gm, F⟩ := G
  obtain ⟨g, hb⟩ := bd_L F
  refine lgood_of (N := [wr]) (ns1 _ (by decide)) (fun _ _ => rfl) fun A outer s H ws Q E hr hl z => ⟨_, pe_zip0 (pmdr_callK (E := fun _ _ _ => True) J (hr.mono (by decide)) rfl gm kp' hb (pk_cons (nm := some "least") (pv 0) pk_nil)) rfl rfl (T.fre "list" (by decide)) rfl (T.fre "zip" (by decide)) rfl (T.fre "range" (by decide)), ?_⟩
  obtain ⟨wv, rfl, hn, ne, e⟩ := z
  exact ⟨fun _ _ _ => True, fun _ _ => True, _, rfl, rfl, ⟨_, _, rfl, .inr ⟨.inl ⟨hn, ne⟩, fun _ _ => trivial⟩⟩, fun p hp => e _ _ (same_new hp)⟩
end
end Kd
/-! K15: a comprehension whose test knows the def around it; _law_is_refused(..) as an expression -/
namespace Kd
open PySem PySem.Spec PyProof.Rows L2 LamX NdefX
section
variable {X : Cx}
/-- [y for y in xs if c], c false at each: a new empty list. The test may lean on what is so of the def's own state -/
def tNoneOf (K : PySem.W.Frag) (i0 j : Nat) (tt : L2.St → TT) : TE := fun σ H Q => ∃ (a : Addr) (xs : List V), σ[i0]? = some (some (.ref a)) ∧ SqL K H a xs ∧
  (∀ (n : Nat) (x : V) (H' : Hp), xs[n]? = some x → Same H H' → tt σ ((wipe σ [j]).set j (some x)) H' fun b H3 => b = false ∧ Same H' H3) ∧ ∀ (H' : Hp) (D : Addr), Same H H' → H D = none → H' D = some (.lst []) → Q (.ref D) H'
theorem same_sq {K : PySem.W.Frag} {H H' : Hp} {a : Addr} {xs : List V} (h : SqL K H a xs) (e : Same H H') : SqL K H' a xs := by
  exact h.elim (fun h => .inl (h.elim (fun q => .inl (e a _ q)) fun ⟨o, q⟩ => .inr ⟨o, e a _ q⟩)) .inr
theorem pe_none {i0 j : Nat} {y l : Str} {py p0 pl cpos : Pos} {c : Expr} {scope : Scope} {tt : L2.St → TT} (hc : X.calm = true) (hxe : ∀ e s, ¬ X.xe e s) (nd : X.N.Nodup) (hl : PE X (.Name l pl) (tVar i0)) (ok : BlkOk X.N X.env.scope scope [(y, j)])
    (pg : ∀ (s : Shared) (H : Hp) (C : Addr) (cl : List (Str × Addr)) (fp : List Addr), PG (X.blk s H scope (compEnvC scope cl C X.env) fp) (.Name y p0) (gName j))
    (pt : ∀ (pins : List (Addr × Obj)) (σ : L2.St) (s : Shared) (H : Hp) (C : Addr) (cl : List (Str × Addr)) (fp : List Addr), Inv X pins σ H s → (∀ b ∈ fp, FpOk X pins H b) → PT (X.blk s H scope (compEnvC scope cl C X.env) fp) c (tt σ)) (fold : ∀ v, foldedSetIterable (.Name l pl) X.env v = pure v := by intro _; rfl) :
    PE X (.ListComp (.Name y py) [⟨.Name y p0, .Name l pl, [c], 0⟩] scope cpos) (tNoneOf X.K i0 j tt) := by
  refine ⟨fun pins s σ H Q I ⟨a, xs, ha, sq, test, hQ⟩ => ?_⟩
  have caught : ∀ y ∈ scope.names, y.2 = .free → ∃ z, X.env.cells.lookup y.1 = some z := fun y hy e => I.ok.has _ ((ok.free y hy e).elim .inl .inr)
  rw [eval_ListComp]
  refine wpAny_comprehension_free rfl fold (closure_ok caught) ok.kind (fun y hy e => by rw [ok.uniq y hy, e]) (wpAny_mono (hl.run pins s σ H (fun v H1 => v = .ref a ∧ H1 = H) I ⟨_, ha, rfl, rfl⟩) (fun u t1 ⟨v, H1, K1, rel, ev, eH⟩ => ?_) fun e t z => (hxe e t z).elim)
  subst ev
  rw [eH] at K1
  obtain rfl : u = Value.ref a := rel
  obtain ⟨its, _, pla, _⟩ := K1.list sq
  refine wpAny_pyIter_list pla.isList ?_
  -- its objects: the iterator, the list, the block's names
  obtain ⟨J, hJ⟩ : ∃ J, t1.heap.objs.size = J := ⟨_, rfl⟩
  have K2 : Inv X pins σ H { t1 with heap := t1.heap.push { cls := .type "list_iterator", data := .fields #[.ref a, .int 0 0] } } := K1.kept (t' := t1.toks) fun b o e => Heap.get?_push_of_some _ e
  have fJ : FpOk X pins H J := K1.fpOk (Nat.le_of_eq hJ) (K1.hok.fresh (Nat.le_of_eq hJ))
  have tJ : (t1.heap.push { cls := .type "list_iterator", data := .fields #[.ref a, .int 0 0] }).IsListIter J a 0 := ⟨_, by rw [← hJ]; exact Heap.get?_push_size _ rfl, rfl, rfl⟩
  rw [hJ]
  obtain ⟨t2, ht2⟩ : ∃ t2 : Shared, t2 = { t1 with heap := t1.heap.push { cls := .type "list_iterator", data := .fields #[.ref a, .int 0 0] } } := ⟨_, rfl⟩
  rw [← ht2] at K2 ⊢
  have tJ2 : t2.heap.IsListIter J a 0 := by rw [ht2]; exact tJ
  clear tJ ht2 K1 pla
  refine wpAny_newObj_type (newEnv_comp ?_) (Nat.zero_le _)
  obtain ⟨D, hD⟩ : ∃ D, t2.heap.objs.size = D := ⟨_, rfl⟩
  have nD : H D = none := K2.hok.fresh (Nat.le_of_eq hD)
  have K3 : Inv X pins σ (upd H D (.lst [])) { t2 with heap := t2.heap.push { cls := .type "list", data := .seq #[] } } :=
    K2.laid (t' := t2.toks) (fun b o e => Heap.get?_push_of_some _ e) (Nat.le_of_eq hD) ⟨Nat.zero_le _, [], 0, .nil, by rw [← hD]; exact Heap.get?_push_size _ rfl⟩
  rw [hD]
  obtain ⟨t3, ht3⟩ : ∃ t3 : Shared, t3 = { t2 with heap := t2.heap.push { cls := .type "list", data := .seq #[] } } := ⟨_, rfl⟩
  have grow : ∀ b o, t2.heap.get? b = some o → t3.heap.get? b = some o := fun b o e => by rw [ht3]; exact Heap.get?_push_of_some _ e
  have ltJ : J < t2.heap.objs.size := by
    obtain ⟨o, e, _⟩ := tJ2
    exact Heap.lt_size e
  have fJ3 : ∀ b ∈ [J], FpOk X pins (upd H D (.lst [])) b ∧ b < t3.heap.objs.size := fun b hb => by
    rw [show b = J from List.mem_singleton.mp hb]
    refine ⟨⟨(upd_ne fun e => Nat.lt_irrefl D (by rw [← e]; rw [hD] at ltJ; rw [e]; rw [e] at ltJ; exact ltJ)).trans fJ.1, fJ.2⟩, ?_⟩
    rw [ht3]
    exact Nat.lt_of_lt_of_le ltJ (by show _ ≤ (t2.heap.push _).objs.size; rw [Heap.size_push]; exact Nat.le_succ _)
  have sm3 := same_new (o := .lst []) nD
  rw [← ht3] at K3
  show codeAny _ _ (.compStart _ 0 (.ref J) (.ref D) (compEnvC scope (cellsFrom ((t2.heap.push { cls := .type "list", data := .seq ([] : List Value).toArray }).objs.size + 1) scope.names (cloFrom X.env.cells scope.names [])) (t2.heap.push { cls := .type "list", data := .seq ([] : List Value).toArray }).objs.size X.env)) _ _
  have eH3 : t2.heap.push { cls := .type "list", data := .seq ([] : List Value).toArray } = t3.heap := by rw [ht3]
  rw [eH3]
  have st : ({ ({ t2 with heap := t3.heap } : Shared) with heap := pushCells (t3.heap.push { cls := .type "dict", data := .dict #[] }) scope.names } : Shared) = { t3 with heap := pushCells (t3.heap.push { cls := .type "dict", data := .dict #[] }) scope.names } := by rw [ht3]
  show codeAny _ _ (.compStart _ 0 (.ref J) (.ref D) (compEnvC scope (cellsFrom (t3.heap.objs.size + 1) scope.names (cloFrom X.env.cells scope.names [])) t3.heap.objs.size X.env)) (compPost (model X.prog X.w) X.A X.xe none (EP X pins σ Q) (.ref D) t3.heap.objs.size) ({ ({ t2 with heap := t3.heap } : Shared) with heap := pushCells (t3.heap.push { cls := .type "dict", data := .dict #[] }) scope.names } : Shared)
  rw [st]
  clear st eH3
  have B4 := block_start K3 ok nd fJ3
  have gg := pg t3 (upd H D (.lst [])) t3.heap.objs.size (cellsFrom (t3.heap.objs.size + 1) scope.names (cloFrom X.env.cells scope.names [])) [J]
  have tt4 := pt pins σ t3 (upd H D (.lst [])) t3.heap.objs.size (cellsFrom (t3.heap.objs.size + 1) scope.names (cloFrom X.env.cells scope.names [])) [J] K3 fun b hb => (fJ3 b hb).1
  have tJ4 : (pushCells (t3.heap.push { cls := .type "dict", data := .dict #[] }) scope.names).IsListIter J a 0 := by
    obtain ⟨o, e, q⟩ := tJ2
    exact ⟨o, pushCells_keeps _ _ _ _ (Heap.get?_push_of_some _ (grow _ _ e)), q⟩
  have loc : (compEnvC scope (cellsFrom (t3.heap.objs.size + 1) scope.names (cloFrom X.env.cells scope.names [])) t3.heap.objs.size X.env).locals = t3.heap.objs.size := rfl
  revert B4 gg tt4 loc
  generalize compEnvC scope (cellsFrom (t3.heap.objs.size + 1) scope.names (cloFrom X.env.cells scope.names [])) t3.heap.objs.size X.env = ce
  generalize pushCells (t3.heap.push { cls := .type "dict", data := .dict #[] }) scope.names = h4 at tJ4 ⊢
  intro B4 gg tt4 loc
  have TJ : Turn X.prog X.w X.K (.Name y p0) (Itl X.K a) [J] J (fun i h => h.IsListIter J a i) := turn_list a J
  have sqB : ∀ {H2 : Hp}, Same (upd H D (.lst [])) H2 → SqL X.K H2 a xs := fun {H2} e => same_sq sq (sm3.trans e)
  have fB : ∀ {σ2 : L2.St} {H2 : Hp} {t : Shared}, Inv (X.blk t3 (upd H D (.lst [])) scope ce [J]) [] σ2 H2 t → H2 J = none → ∀ b ∈ [J], FpOk (X.blk t3 (upd H D (.lst [])) scope ce [J]) [] H2 b := fun {σ2 H2 t} K hn b hb => by
    have e := K.ok.exf b hb
    refine ⟨by rw [show b = J from List.mem_singleton.mp hb]; exact hn, e.1, K.ok.exfs b hb, .inl hb, e.2, fun p hp => ?_⟩
    exact absurd (show p ∈ ([] : List (Addr × Obj)) from hp) (List.not_mem_nil)
  have loop : codeAny (model X.prog X.w) X.A (.compLoop (.ListComp (.Name y py) [⟨.Name y p0, .Name l pl, [c], 0⟩] scope cpos) 0 (.ref J) (.ref D) ce) (compPost (model X.prog X.w) X.A X.xe none (EP X pins σ Q) (.ref D) t3.heap.objs.size) { t3 with heap := h4 } := by
    refine compLoop_any (fun m t => ∃ i H2, m + i = xs.length ∧ Inv (X.blk t3 (upd H D (.lst [])) scope ce [J]) [] (wipe σ [j]) H2 t ∧ t.heap.IsListIter J a i ∧ H2 J = none ∧ Same (upd H D (.lst [])) H2) ?_ xs.length ⟨0, _, rfl, B4, tJ4, (fJ3 J (List.mem_singleton.mpr rfl)).1.1, Same.refl _⟩
    rintro m t5 ⟨i, H5, em, K5, i5, n5, sm5⟩
    by_cases lt : i < xs.length
    · refine wpAny_mono (TJ.item (X.blk t3 (upd H D (.lst [])) scope ce [J]) rfl rfl rfl hc i [] t5 _ H5 (fun _ _ => False) K5 (fB K5 n5) i5 ⟨xs, xs[i], sqB sm5, by simp [lt]⟩) (fun r t6 ⟨u, er, more⟩ => ?_) fun _ _ z => z.elim
      subst er
      refine wpAny_mono more (fun _ t7 ⟨x, H7, K7, rx, yx, i7, n7⟩ => ?_) fun _ _ z => z.elim
      obtain ⟨eH7, ex⟩ := yx
      subst eH7
      have n7 : H7 J = none := n7 J (List.mem_singleton.mpr rfl)
      obtain ⟨oJ, eJ, dJ⟩ := TJ.obj _ _ i7 J (List.mem_singleton.mpr rfl)
      have K7p := K7.pinned (fB K7 n7) (TJ.obj _ _ i7)
      refine wpAny_mono (gg.run _ t7 _ H7 x u (fun σ' H' => σ' = (wipe σ [j]).set j (some x) ∧ H' = H7) K7p rx ⟨rfl, rfl⟩) (fun _ t8 ⟨σ8, H8, K8, e8, eH8⟩ => ?_) fun _ _ z => z.elim
      subst e8
      subst eH8
      refine wpAny_tests_one (wpAny_mono (tt4.run _ t8 _ _ _ K8 (test i x _ (ex xs (sqB sm5)) (sm3.trans sm5))) (fun b t9 ⟨H9, K9, eb, sm9⟩ => ?_) fun _ _ z => z.elim)
      subst eb
      rw [if_neg Bool.false_ne_true]
      obtain ⟨q9, n9, _⟩ := K9.pin (J, oJ) (List.mem_append_right _ (List.mem_append_right _ (mem_pinsAt (List.mem_singleton.mpr rfl) eJ)))
      refine ⟨m - 1, by omega, i + 1, H9, by omega, ?_, TJ.keep _ _ _ i7 fun b hb o e => ?_, n9, sm5.trans sm9⟩
      · have K9' : Inv (X.blk t3 (upd H D (.lst [])) scope ce [J]) [] ((wipe σ [j]).set j (some x)) H9 t9 := K9.unpinned (pins := [])
        exact invLe K9' ((by
          have z := Le.none_of (Le.refl (wipe σ [j])) j (some x)
          have e : (wipe σ [j]).set j none = wipe σ [j] := List.set_set ..
          rw [e] at z
          exact z))
      · rw [show b = J from List.mem_singleton.mp hb] at e ⊢
        rw [eJ] at e
        rw [← Option.some.inj e]
        exact q9
    · have ei : i = xs.length := by omega
      refine wpAny_mono (TJ.done (X.blk t3 (upd H D (.lst [])) scope ce [J]) rfl rfl rfl hc i [] t5 _ H5 (fun _ _ => False) K5 (fB K5 n5) i5 ⟨xs, sqB sm5, Nat.le_of_eq ei.symm⟩) (fun r t6 ⟨er, K6⟩ => ?_) fun _ _ z => z.elim
      subst er
      have back : Inv X pins σ H5 t6 := K3.call' (ch := [J]) K6.os K6.base K6.hok K6.bare fun b hb => ⟨(fJ3 b hb).1.2.2.2.1, (fJ3 b hb).1.2.1, (fJ3 b hb).1.2.2.2.2.1, (fJ3 b hb).1.2.2.2.2.2⟩
      obtain ⟨ms, nsB, _⟩ := K6.loc
      have nsB : t6.heap.Ns ce.locals ms := nsB
      have frB : H5 ce.locals = none := K6.free
      rw [loc] at nsB frB
      obtain ⟨g0, g1, g2, g3, g4, g5⟩ := K3.fpOk (Nat.le_refl _) frB
      exact ⟨ms, nsB, fun h9 sb9 => ⟨.ref D, H5, back.turned (t' := t6.toks) (fun b o hb e => (sb9.2 b hb).trans e) g0 g1 g3 g4 g5, rfl, hQ H5 D (sm3.trans sm5) nD (sm5 _ _ upd_same)⟩⟩
  exact codeAny_compStart_list loop (TJ.self X.A 0 _ _ _ tJ4 loop)
/-- _law_is_refused(arg); W: what the cells hold -/
def tRefd (P : Program) (w : World) (K : PySem.W.Frag) (mg : Str → Option Value) (base : Heap) (X : Cx) (W : List Nat → L2.St → List (Option V)) (ta : TE) : TE := fun σ H Q => ta σ H fun v H1 =>
  ∃ (f : Addr) (L : NF) (b : Expr) (fr : List Str) (js : List Nat) (spr : SpL), v = .ref f ∧ H1 f = some (LamO f L b) ∧ H1 L.c = some (CodeO L.c L.qual) ∧ LGood P w K mg base 8 f L b fr spr ∧ (X.Ok → Caps X L.cl fr js) ∧
    ∀ (Q' : VK) (E' : XK), (∀ v H', Q (.bl false) H' → Q' v H') → (∀ d H', Q (.bl true) H' → E' (CI K) d H') → spr (W js σ) H1 Q' E'
theorem pe_refused {Y : Cx} {fd : FuncData} {arg : Expr} {ta : TE} {p pos : Pos} {W : List Nat → L2.St → List (Option V)} (T : Tx Y.K Y.mg) (F : FnT Y.K "_law_is_refused" 19 fd) (hr : Room 9 Y.A) (ha : PE Y arg ta)
    (hC : ∀ (pins : List (Addr × Obj)) (σ : L2.St) (H : Hp) (s : Shared), Inv Y pins σ H s → ∀ cl fr js, (X.Ok → Caps X cl fr js) → CellsAt cl fr (W js σ) s.heap H) (hg : Gl Y "_law_is_refused" := by rfl)
    (he : starEach [arg] Y.env = (false, eval arg Y.env) :: starEach [] Y.env := by rfl) :
    PE Y (.Call (.Name "_law_is_refused" p) [arg] [] pos) (tRefd Y.prog Y.w Y.K Y.mg Y.base X W ta) := by
  refine ⟨fun pins s σ H Q I h => ?_⟩
  refine wpAny_Call_Name_kw (ld_glob I hg (T.glo _ (by decide)) ?_ (by decide))
  refine PySem.W.callWith_K (h₀ := Y.base) I.ok.mod.kin F.kp ?_ he (by rfl)
  rw [he]
  show wpAny _ _ (spliced ((false, eval arg Y.env) :: backTo pos (starEach [] Y.env))) _ _ s
  refine Calls.spliced_cons (thn (ha.run pins s σ H _ I h) fun u s1 ⟨v, H1, I1, r1, f, L, b, fr, js, spr, ev, hf, hcd, G, cp, q⟩ => ?_)
  subst ev
  obtain rfl : u = Value.ref f := r1
  refine Calls.spliced_nil ⟨I1.kIn, ?_⟩
  show wpAny _ _ (call (.ref (He.ga Y.K "_law_is_refused")) [.ref f]) _ _ _
  refine wpAny_call (codeAny_mono (refused_run (k := 8) T F hr I1.env0 hf hcd (hC _ _ _ _ I1 _ _ _ cp) G q) fun r s' hq => ?_)
  cases r with
  | error e => exact (show False from hq).elim
  | ok fl =>
    cases fl with
    | ret u => exact I1.after hq
    | next => exact False.elim hq
    | brk => exact False.elim hq
    | cont => exact False.elim hq
end
end Kd
/-! K16: _law_are_refused -/
namespace Kd
open PySem PySem.Spec PyProof.Rows L2 LamX NdefX
abbrev nA : List Str := ["_law_kind_here", "_law_wrong", "_law_calls", "_law_call"]
theorem scAr : FnScope nA ["_law_kind_here", "_law_wrong"] (defScope (top 21)) := ⟨rfl, rfl, rfl, by decide +kernel, rfl, by decide +kernel, by decide +kernel⟩
abbrev qA : Str := "_law_are_refused" ++ ".<locals>." ++ "<lambda>"
abbrev XA (P : Program) (w : World) (K : PySem.W.Frag) (mg : Str → Option Value) (base : Heap) (c : Addr) (A : Around) (outer : List Env) (s : Shared) (H : Hp) (E : XK) : Cx := (cxOf CX0 P w K mg base nA "_law_are_refused" (defScope (top 21)) (He.ga K "_law_are_refused") (.ref c) A outer s H E).nox
def spAre (K : PySem.W.Frag) (Pt : Addr) : Sp := fun vs H Q _ => ∃ kv wv k, vs = [kv, wv] ∧ KindAt K H kv k ∧ NotKind H wv ∧ TabS H Pt qA ∧ ∀ H', Nt H H' → TabS H' Pt qA → Q (.bl true) H'
/-- a lambda of the list: refused, whatever goes on -/
def Itm (X : Cx) (kv wv : V) (H0 H : Hp) (v : V) : Prop := ∃ (f : Addr) (L : NF) (b : Expr) (fr : List Str) (js : List Nat) (spr : SpL), v = .ref f ∧ H f = some (LamO f L b) ∧ H L.c = some (CodeO L.c L.qual) ∧ LGood X.prog X.w X.K X.mg X.base 8 f L b fr spr ∧ (X.Ok → Caps X L.cl fr js) ∧
  ∀ (x y : Option V) (H' : Hp), Nt H0 H' → ∀ (Q' : VK) (E' : XK), (∀ d H'', Same H' H'' → E' (CI X.K) d H'') → spr (js.map (slotAt [some kv, some wv, x, y])) H' Q' E'
section
variable {X : Cx} {kv wv v : V} {H0 H H' : Hp} {Pt pl : Addr} {xs ys : List V}
theorem Itm.nt (h : Itm X kv wv H0 H v) (n : Nt H H') : Itm X kv wv H0 H' v := by
  obtain ⟨f, L, b, fr, js, spr, e, e1, e2, r⟩ := h
  exact ⟨f, L, b, fr, js, spr, e, n _ _ e1 lamO_ne, n _ _ e2 codeO_ne, r⟩
theorem ext_upd {φ : Heap → Prop} {a : Addr} (e : H a = some (.ext φ)) (l : H pl = some (.lst xs)) : upd H pl (.lst ys) a = some (.ext φ) := by
  rw [upd_ne (ne_of e l (by intro z; cases z))]
  exact e
theorem Itm.at (h : Itm X kv wv H0 H v) (l : H pl = some (.lst xs)) : Itm X kv wv H0 (upd H pl (.lst ys)) v := by
  obtain ⟨f, L, b, fr, js, spr, e, e1, e2, r⟩ := h
  exact ⟨f, L, b, fr, js, spr, e, ext_upd e1 l, ext_upd e2 l, r⟩
theorem tabS_at {q : Str} (t : TabS H Pt q) (l : H pl = some (.lst xs)) : TabS (upd H pl (.lst ys)) Pt q := by
  obtain ⟨ps, a1, a2, a3⟩ := t
  refine ⟨ps, by rw [upd_ne (ne_of a1 l (by intro z; cases z))]; exact a1, a2, fun pos cv z => ?_⟩
  obtain ⟨c0, b1, b2⟩ := a3 pos cv z
  exact ⟨c0, b1, ext_upd b2 l⟩
/-- the list of lambdas so far -/
structure LS (X : Cx) (kv wv : V) (Pt : Addr) (H0 H : Hp) (pl : Addr) (xs : List V) : Prop where
  nt : Nt H0 H
  tab : TabS H Pt qA
  at_ : H pl = some (.lst xs)
  fr : H0 pl = none
  i3 : ∀ v ∈ xs.take 3, Itm X kv wv H0 H v
  iw : wv ≠ .non → ∀ v ∈ xs, Itm X kv wv H0 H v
theorem LS.mv (S : LS X kv wv Pt H0 H pl xs) (n : Nt H H') (t : TabS H' Pt qA) : LS X kv wv Pt H0 H' pl xs :=
  ⟨S.nt.trans n, t, n _ _ S.at_ (fun _ z => nomatch z), S.fr, fun v hv => (S.i3 v hv).nt n, fun w v hv => (S.iw w v hv).nt n⟩
theorem LS.app {f : Addr} (S : LS X kv wv Pt H0 H pl xs) (n : Nt H H') (t : TabS H' Pt qA) (h3 : xs.length < 3 → Itm X kv wv H0 H' (.ref f)) (hw : wv ≠ .non → Itm X kv wv H0 H' (.ref f)) :
    LS X kv wv Pt H0 (upd H' pl (.lst (xs ++ [.ref f]))) pl (xs ++ [.ref f]) := by
  have S1 := S.mv n t
  have l := S1.at_
  refine ⟨fun b o e n => ?_, tabS_at S1.tab l, upd_same, S.fr, fun v hv => ?_, fun w v hv => ?_⟩
  · rw [upd_ne (ne_of_none e S.fr)]
    exact S1.nt b o e n
  · by_cases h : xs.length < 3
    · rw [List.take_append] at hv
      rcases List.mem_append.mp hv with z | z
      · exact (S1.i3 v z).at l
      · have e : v = .ref f := by
          have z2 := List.mem_of_mem_take z
          simpa using z2
        rw [e]
        exact (h3 h).at l
    · rw [List.take_append_of_le_length (by omega)] at hv
      exact (S1.i3 v hv).at l
  · rcases List.mem_append.mp hv with z | z
    · exact (S1.iw w v z).at l
    · rw [show v = .ref f from by simpa using z]
      exact (hw w).at l
theorem LS.new {f p : Addr} (n : Nt H0 H) (t : TabS H Pt qA) (h : Itm X kv wv H0 H (.ref f)) (f0 : H p = none) (fr : H0 p = none) : LS X kv wv Pt H0 (upd H p (.lst [.ref f])) p [.ref f] := by
  have sm := same_new (o := .lst [.ref f]) f0
  have h2 := h.nt (.same sm)
  exact ⟨n.trans (.same sm), tabS_same t sm, upd_same, fr, fun v hv => by rw [show v = .ref f from by simpa using hv]; exact h2, fun _ v hv => by rw [show v = .ref f from by simpa using hv]; exact h2⟩
theorem itm_2 {f c' : Addr} {sc : Scope} {b : Expr} {bl : Bool} {k : Kn} (hk : KindAt X.K H0 kv k) (hn : NotKind H0 wv) (e1 : H f = some (LamO f (lamNF X noArgs sc c') b)) (e2 : H c' = some (CodeO c' qA)) (eq : X.env.qual ++ "<lambda>" = qA) (G : LGood X.prog X.w X.K X.mg X.base 8 f (lamNF X noArgs sc c') b [kh, wr] (spR2 X.K bl))
    (hfree : ∀ y ∈ sc.names, y.2 = .free → X.env.scope.names.lookup y.1 = some .cell ∨ X.env.scope.names.lookup y.1 = some .free) (hfr : ∀ y ∈ [kh, wr], (y, NameKind.free) ∈ sc.names) (hjs : [0, 1].map (fun j => X.N[j]?) = [kh, wr].map some) (hb : bl = true → wv ≠ .non) : Itm X kv wv H0 H (.ref f) :=
  ⟨f, lamNF X noArgs sc c', b, [kh, wr], [0, 1], spR2 X.K bl, rfl, e1, by show H c' = some (CodeO c' (X.env.qual ++ "<lambda>")); rw [eq]; exact e2, G, fun ok => Caps.made ok hfree hfr hjs, fun x y H' n Q' E' hE => ⟨kv, wv, rfl, ⟨k, hk.tk n.tk⟩, hn.nt n, hb, fun H'' sm => hE _ _ sm⟩⟩
theorem itm_1 {f c' : Addr} {sc : Scope} {b : Expr} {bl : Bool} (hn : NotKind H0 wv) (e1 : H f = some (LamO f (lamNF X noArgs sc c') b)) (e2 : H c' = some (CodeO c' qA)) (eq : X.env.qual ++ "<lambda>" = qA) (G : LGood X.prog X.w X.K X.mg X.base 8 f (lamNF X noArgs sc c') b [wr] (spR1 X.K bl))
    (hfree : ∀ y ∈ sc.names, y.2 = .free → X.env.scope.names.lookup y.1 = some .cell ∨ X.env.scope.names.lookup y.1 = some .free) (hfr : ∀ y ∈ [wr], (y, NameKind.free) ∈ sc.names) (hjs : [1].map (fun j => X.N[j]?) = [wr].map some) (hb : bl = true → wv ≠ .non) : Itm X kv wv H0 H (.ref f) :=
  ⟨f, lamNF X noArgs sc c', b, [wr], [1], spR1 X.K bl, rfl, e1, by show H c' = some (CodeO c' (X.env.qual ++ "<lambda>")); rw [eq]; exact e2, G, fun ok => Caps.made ok hfree hfr hjs, fun x y H' n Q' E' hE => ⟨wv, rfl, hn.nt n, hb, fun H'' sm => hE _ _ sm⟩⟩
end
section
variable {P : Program} {w : World} {K : PySem.W.Frag} {mg : Str → Option Value} {base : Heap}
theorem ok_are {fd fd9 : FuncData} (T : Tx K mg) (F : FnT K "_law_are_refused" 21 fd) (F9 : FnT K "_law_is_refused" 19 fd9) (hL : Has P w K mg base (L2.CX P w) 3 "is_as_loose" ["kind", "other"] (spLoose K)) (G : HasG P w K mg base)
    (TB : TabB base mg (He.cT K ("_law_are_refused", none)).1 (He.cT K ("_law_are_refused", none)).2) : FnOk P w K mg base CX0 10 (He.ga K "_law_are_refused") fd ["_law_kind_here", "_law_wrong"] (spAre K (He.cT K ("_law_are_refused", none)).2) := by
  obtain ⟨oc, od, dV, kV, doc, pm, an, cdv, ct, osl, rfl, lk, hcd, _, _⟩ := F.ex
  obtain ⟨c, rfl⟩ := He.codeIn_ref hcd
  have ec : He.codeOf K ("_law_are_refused", none) = c := He.codeOf_eq lk rfl
  have TB : TabB base mg c (He.cT K ("_law_are_refused", none)).2 := by
    rw [← ec]
    exact TB
  generalize (He.cT K ("_law_are_refused", none)).2 = Pt at TB ⊢
  refine fn_of lk hcd scAr (fun vs H Q E h => ?_) fun A outer s H vs Q E hr h => ?_
  · obtain ⟨kv, wv, k, rfl, _⟩ := h
    rfl
  have hu : (XA P w K mg base c A outer s H E).A.units + 64 < cLine := by
    have := hr.un
    show (A.deeper _).units + 64 < cLine
    omega
  have body : ∃ t, PSs (XA P w K mg base c A outer s H E) (defBody (top 21)) t ∧ t { nx := fun _ H' => Q .non H', rt := Q } (L2.start nA vs) H := by
    refine ⟨_, pss_cons (ps_set (i := 2) scAr.nd rfl (.inl rfl) (pe_lst (pa_cons (pe_lam (q := qA) TB rfl rfl rfl (ndef_free (sc := defScope (top 21)) (fr := []) (by decide +kernel))) pa_nil)))
      (pss_cons (ps_expr (pe_bm PySem.F.plainAttrs_list PySem.F.slot_list_append PySem.F.type_list_append mt_append (pv 2) (pa_cons (pe_lam (q := qA) TB rfl rfl rfl (ndef_free (sc := defScope (top 21)) (fr := []) (by decide +kernel))) pa_nil))) (pss_cons (ps_expr (pe_bm PySem.F.plainAttrs_list PySem.F.slot_list_append PySem.F.type_list_append mt_append (pv 2) (pa_cons (pe_lam (q := qA) TB rfl rfl rfl (ndef_free (sc := defScope (top 21)) (fr := []) (by decide +kernel))) pa_nil))) (pss_cons (ps_expr (pe_bm PySem.F.plainAttrs_list PySem.F.slot_list_append PySem.F.type_list_append mt_append (pv 2) (pa_cons (pe_lam (q := qA) TB rfl rfl rfl (ndef_free (sc := defScope (top 21)) (fr := []) (by decide +kernel))) pa_nil))) (pss_cons (ps_expr (pe_bm PySem.F.plainAttrs_list PySem.F.slot_list_append PySem.F.type_list_append mt_append (pv 2) (pa_cons (pe_lam (q := qA) TB rfl rfl rfl (ndef_free (sc := defScope (top 21)) (fr := []) (by decide +kernel))) pa_nil)))
      (pss_cons (ps_if (pt_cmp (pc_notN (pv 1)))
        (pss_cons (ps_expr (pe_bm PySem.F.plainAttrs_list PySem.F.slot_list_append PySem.F.type_list_append mt_append (pv 2) (pa_cons (pe_lam (q := qA) TB rfl rfl rfl (ndef_free (sc := defScope (top 21)) (fr := []) (by decide +kernel))) pa_nil))) (pss_cons (ps_expr (pe_bm PySem.F.plainAttrs_list PySem.F.slot_list_append PySem.F.type_list_append mt_append (pv 2) (pa_cons (pe_lam (q := qA) TB rfl rfl rfl (ndef_free (sc := defScope (top 21)) (fr := []) (by decide +kernel))) pa_nil))) (pss_one (ps_if (pt_val (pe_refused (X := XA P w K mg base c A outer s H E) (W := fun js σ => js.map (slotAt σ)) T F9 hr (pe_lam (q := qA) TB rfl rfl rfl (ndef_free (sc := defScope (top 21)) (fr := []) (by decide +kernel))) (fun pins σ H s I cl fr js cp => cells_of I (cp I.ok)))) (pss_one (ps_ret pe_bl)) pss_nil))))
        pss_nil)
      (pss_cons (ps_if (pt_cmp (pc_isN (pv 1))) (pss_one (ps_set (i := 2) scAr.nd rfl (.inl rfl) (pe_slice sl_list (pv 2) po_none (po_some pe_int)))) pss_nil)
      (pss_one (ps_ret (pe_cmpR (op_eqD hu) (pe_none (X := XA P w K mg base c A outer s H E) (i0 := 2) (j := 3) (tt := fun σ => tNot (tB (tRefd P w K mg base (XA P w K mg base c A outer s H E) (fun js _ => js.map (slotAt σ)) (tVar 3)))) rfl (fun _ _ z => z) scAr.nd (pv 2) (blkOk_by (N := nA) (sc := defScope (top 21)) (by decide +kernel))
          (fun _ _ _ _ _ => pg_name (i := 3) scAr.nd rfl (.inl rfl))
          (fun pins σ s1 H1 C cl fp I hfp => pt_not (pt_val (pe_refused (X := XA P w K mg base c A outer s H E) (W := fun js _ => js.map (slotAt σ)) T F9 hr (pv 3) (fun pins2 σ2 H2 s2 I2 cl2 fr js cp => cells_later (cells_of I (cp I.ok)) (fun y c3 e z => (hfp c3 z).2.2.2.2.1 y c3 ((cp I.ok).sub y c3 e) rfl) I2))))) (pe_lst pa_nil) rfl))))))))), ?_⟩
    obtain ⟨kv, wv, k, rfl, hk, hn, tb, q⟩ := h
    have fin : ∀ (G : Hp) (p : Addr) (xs : List V), Nt H G → TabS G Pt qA → G p = some (.lst xs) → (∀ v ∈ xs, Itm (XA P w K mg base c A outer s H E) kv wv H G v) →
        tRet (tOp (rEqD K) (tNoneOf K 2 3 (fun σ' => tNot (tB (tRefd P w K mg base (XA P w K mg base c A outer s H E) (fun js _ => js.map (slotAt σ')) (tVar 3))))) (tLst tNil)) { nx := fun _ H' => Q .non H', rt := Q } [some kv, some wv, some (.ref p), none] G := by
      intro G p xs nG tG hp hI
      refine ⟨p, xs, rfl, SqL.of hp, fun n x H2 hx sm => ?_, fun H2 D sm nD hD2 => ⟨by decide, fun p2 np2 => ?_⟩⟩
      · have n2 : Nt G H2 := .same sm
        obtain ⟨f, L, b, fr, js, spr, ex, e1, e2, hG, cp, hq⟩ := (hI x (List.mem_of_getElem? hx)).nt n2
        exact ⟨_, rfl, f, L, b, fr, js, spr, ex, e1, e2, hG, cp, fun Q' E' _ hE => hq _ _ H2 (nG.trans n2) Q' E' fun d H3 s3 => hE d H3 ⟨true, rfl, rfl, s3⟩⟩
      · have sm2 := same_new (o := .lst []) np2
        refine ⟨.list [], .list [], .lst (SqL.of (sm2 _ _ hD2)) .nil, .lst (SqL.of upd_same) .nil, by decide +kernel, by decide +kernel, ?_⟩
        exact q _ (nG.trans (.same (sm.trans sm2))) (tabS_same tG (sm.trans sm2))
    refine ⟨tb, fun f1 c1 H1 n1 nn1 t1 _ ef1 ec1 => ⟨by show 1 ≤ sizeLine; decide, fun pl npl => ?_⟩⟩
    have fpl : H pl = none := nn1 pl npl
    have S1 : LS (XA P w K mg base c A outer s H E) kv wv Pt H (upd H1 pl (.lst [.ref f1])) pl [.ref f1] := LS.new n1 t1 (itm_2 hk hn ef1 ec1 rfl (lg_wk hL) (ndef_free (sc := defScope (top 21)) (fr := [kh, wr]) (by decide +kernel)) (ndef_fr (sc := defScope (top 21)) (fr := [kh, wr]) (by decide +kernel)) rfl (fun z => nomatch z)) npl fpl
    revert S1
    refine (fun z => z : (∀ Z : Hp, LS (XA P w K mg base c A outer s H E) kv wv Pt H Z pl _ → _) → _) (fun G1 S1 => ?_) _
    refine ⟨_, rfl, .inl ⟨rfl, _, SqL.of S1.at_⟩, S1.tab, fun f2 c2 H2 n2 _ t2 _ ef2 ec2 => ⟨pl, _, .ref f2, rfl, rfl, (S1.mv n2 t2).at_, by show 1 < sizeLine; decide, ?_⟩⟩
    have S2 := S1.app n2 t2 (fun _ => itm_2 hk hn ef2 ec2 rfl (lg_kw hL) (ndef_free (sc := defScope (top 21)) (fr := [kh, wr]) (by decide +kernel)) (ndef_fr (sc := defScope (top 21)) (fr := [kh, wr]) (by decide +kernel)) rfl (fun z => nomatch z)) (fun _ => itm_2 hk hn ef2 ec2 rfl (lg_kw hL) (ndef_free (sc := defScope (top 21)) (fr := [kh, wr]) (by decide +kernel)) (ndef_fr (sc := defScope (top 21)) (fr := [kh, wr]) (by decide +kernel)) rfl (fun z => nomatch z))
    revert S2
    refine (fun z => z : (∀ Z : Hp, LS (XA P w K mg base c A outer s H E) kv wv Pt H Z pl _ → _) → _) (fun G2 S2 => ?_) _
    clear S1 n2 t2 ef2 ec2
    refine ⟨_, rfl, .inl ⟨rfl, _, SqL.of S2.at_⟩, S2.tab, fun f3 c3 H3 n3 _ t3 _ ef3 ec3 => ⟨pl, _, .ref f3, rfl, rfl, (S2.mv n3 t3).at_, by show 2 < sizeLine; decide, ?_⟩⟩
    have S3 := S2.app n3 t3 (fun _ => itm_1 hn ef3 ec3 rfl (lg_ww hL) (ndef_free (sc := defScope (top 21)) (fr := [wr]) (by decide +kernel)) (ndef_fr (sc := defScope (top 21)) (fr := [wr]) (by decide +kernel)) rfl (fun z => nomatch z)) (fun _ => itm_1 hn ef3 ec3 rfl (lg_ww hL) (ndef_free (sc := defScope (top 21)) (fr := [wr]) (by decide +kernel)) (ndef_fr (sc := defScope (top 21)) (fr := [wr]) (by decide +kernel)) rfl (fun z => nomatch z))
    revert S3
    refine (fun z => z : (∀ Z : Hp, LS (XA P w K mg base c A outer s H E) kv wv Pt H Z pl _ → _) → _) (fun G3 S3 => ?_) _
    clear S2 n3 t3 ef3 ec3
    refine ⟨_, rfl, .inl ⟨rfl, _, SqL.of S3.at_⟩, S3.tab, fun f4 c4 H4 n4 _ t4 _ ef4 ec4 => ⟨pl, _, .ref f4, rfl, rfl, (S3.mv n4 t4).at_, by show 3 < sizeLine; decide, ?_⟩⟩
    have S4 := S3.app n4 t4 (fun z => absurd z (by show ¬ 3 < 3; decide)) (fun ne => itm_2 hk hn ef4 ec4 rfl (lg_LkMw T G) (ndef_free (sc := defScope (top 21)) (fr := [kh, wr]) (by decide +kernel)) (ndef_fr (sc := defScope (top 21)) (fr := [kh, wr]) (by decide +kernel)) rfl (fun _ => ne))
    revert S4
    refine (fun z => z : (∀ Z : Hp, LS (XA P w K mg base c A outer s H E) kv wv Pt H Z pl _ → _) → _) (fun G4 S4 => ?_) _
    clear S3 n4 t4 ef4 ec4
    refine ⟨_, rfl, .inl ⟨rfl, _, SqL.of S4.at_⟩, S4.tab, fun f5 c5 H5 n5 _ t5 _ ef5 ec5 => ⟨pl, _, .ref f5, rfl, rfl, (S4.mv n5 t5).at_, by show 4 < sizeLine; decide, ?_⟩⟩
    have S5 := S4.app n5 t5 (fun z => absurd z (by show ¬ 4 < 3; decide)) (fun ne => itm_2 hk hn ef5 ec5 rfl (lg_MkLw T G) (ndef_free (sc := defScope (top 21)) (fr := [kh, wr]) (by decide +kernel)) (ndef_fr (sc := defScope (top 21)) (fr := [kh, wr]) (by decide +kernel)) rfl (fun _ => ne))
    revert S5
    refine (fun z => z : (∀ Z : Hp, LS (XA P w K mg base c A outer s H E) kv wv Pt H Z pl _ → _) → _) (fun G5 S5 => ?_) _
    clear S4 n5 t5 ef5 ec5
    refine ⟨_, rfl, _, rfl, ?_⟩
    by_cases hw : wv = .non
    · subst hw
      refine iteF ?_
      refine ⟨_, rfl, _, rfl, iteT ?_⟩
      refine ⟨_, rfl, 3, rfl, pl, _, rfl, SqL.of S5.at_, fun p np => ?_⟩
      have sm := same_new (o := .lst (cutV ([.ref f1] ++ [.ref f2] ++ [.ref f3] ++ [.ref f4] ++ [.ref f5]) none (some 3))) np
      exact fin _ p _ (S5.nt.trans (.same sm)) (tabS_same S5.tab sm) upd_same fun v hv => (S5.i3 v hv).nt (.same sm)
    · have eb : (!decide (wv = V.non)) = true := by simp [hw]
      show (if (!decide (wv = V.non)) = true then _ else _)
      rw [eb]
      refine iteT ?_
      refine ⟨_, rfl, .inl ⟨rfl, _, SqL.of S5.at_⟩, S5.tab, fun f6 c6 H6 n6 _ t6 _ ef6 ec6 => ⟨pl, _, .ref f6, rfl, rfl, (S5.mv n6 t6).at_, by show 5 < sizeLine; decide, ?_⟩⟩
      have S6 := S5.app n6 t6 (fun z => absurd z (by show ¬ 5 < 3; decide)) (fun ne => itm_1 hn ef6 ec6 rfl (lg_Lw T G) (ndef_free (sc := defScope (top 21)) (fr := [wr]) (by decide +kernel)) (ndef_fr (sc := defScope (top 21)) (fr := [wr]) (by decide +kernel)) rfl (fun _ => ne))
      revert S6
      refine (fun z => z : (∀ Z : Hp, LS (XA P w K mg base c A outer s H E) kv wv Pt H Z pl _ → _) → _) (fun G6 S6 => ?_) _
      clear S5 n6 t6 ef6 ec6
      refine ⟨_, rfl, .inl ⟨rfl, _, SqL.of S6.at_⟩, S6.tab, fun f7 c7 H7 n7 _ t7 _ ef7 ec7 => ⟨pl, _, .ref f7, rfl, rfl, (S6.mv n7 t7).at_, by show 6 < sizeLine; decide, ?_⟩⟩
      have S7 := S6.app n7 t7 (fun z => absurd z (by show ¬ 6 < 3; decide)) (fun ne => itm_1 hn ef7 ec7 rfl (lg_Mw T G) (ndef_free (sc := defScope (top 21)) (fr := [wr]) (by decide +kernel)) (ndef_fr (sc := defScope (top 21)) (fr := [wr]) (by decide +kernel)) rfl (fun _ => ne))
      revert S7
      refine (fun z => z : (∀ Z : Hp, LS (XA P w K mg base c A outer s H E) kv wv Pt H Z pl _ → _) → _) (fun G7 S7 => ?_) _
      clear S6 n7 t7 ef7 ec7
      refine ⟨S7.tab, fun f8 c8 H8 n8 _ t8 _ ef8 ec8 => ⟨f8, _, _, [wr], [1], spR0, rfl, ef8, ec8, lg_zip T G, fun ok => Caps.made ok (ndef_free (sc := defScope (top 21)) (fr := [wr]) (by decide +kernel)) (ndef_fr (sc := defScope (top 21)) (fr := [wr]) (by decide +kernel)) rfl, fun Q' E' hq _ => ⟨wv, rfl, hn.nt (S7.nt.trans n8), hw, fun v H' sm => hq v H' ⟨false, rfl, iteF ?_⟩⟩⟩⟩
      have S8 := (S7.mv n8 t8).mv (.same sm) (tabS_same t8 sm)
      refine ⟨_, rfl, _, rfl, ?_⟩
      have eb2 : decide (wv = V.non) = false := by simp [hw]
      show (if decide (wv = V.non) = true then _ else _)
      rw [eb2]
      refine iteF ?_
      exact fin H' pl _ S8.nt S8.tab S8.at_ (S8.iw hw)
  obtain ⟨t, ht, hq⟩ := body
  exact ⟨t, ht.nox, hq⟩
theorem has_are {fd fd9 : FuncData} (T : Tx K mg) (F : FnT K "_law_are_refused" 21 fd) (F9 : FnT K "_law_is_refused" 19 fd9) (hL : Has P w K mg base (L2.CX P w) 3 "is_as_loose" ["kind", "other"] (spLoose K)) (G : HasG P w K mg base)
    (TB : TabB base mg (He.cT K ("_law_are_refused", none)).1 (He.cT K ("_law_are_refused", none)).2) : Has P w K mg base CX0 10 "_law_are_refused" ["_law_kind_here", "_law_wrong"] (spAre K (He.cT K ("_law_are_refused", none)).2) :=
  FunD.has T F (ok_are T F F9 hL G TB) (by decide) fun _ _ _ _ _ _ us hl => match us, hl with | [_, _], _ => rfl
end
end Kd
/-! K8: [y for y in g if y not in z], g a generator that a call has made -/
namespace Kd
open PySem PySem.Spec PyProof.Rows L2 GenW
/-- what has been kept of what is out -/
def sel (bs : List Kn) : List V → List Kn → List V
  | v :: vs, k :: ks => if k ∈ bs then sel bs vs ks else v :: sel bs vs ks
  | _, _ => []
theorem sel_snoc {bs : List Kn} {x : V} {k : Kn} : ∀ {ys : List V} {ks : List Kn}, ks[ys.length]? = some k → sel bs (ys ++ [x]) ks = sel bs ys ks ++ (if k ∈ bs then [] else [x])
  | [], [], h => by simp at h
  | [], k' :: ks, h => by
    have e : k' = k := by simpa using h
    subst e
    show (if k' ∈ bs then sel bs [] ks else x :: sel bs [] ks) = _
    cases ks <;> rfl
  | y :: ys, [], h => by simp at h
  | y :: ys, k' :: ks, h => by
    have ih := sel_snoc (bs := bs) (x := x) (k := k) (ys := ys) (ks := ks) (by simpa using h)
    show (if k' ∈ bs then sel bs (ys ++ [x]) ks else y :: sel bs (ys ++ [x]) ks) = (if k' ∈ bs then sel bs ys ks else y :: sel bs ys ks) ++ _
    rw [ih]
    by_cases e : k' ∈ bs
    · rw [if_pos e, if_pos e]
    · rw [if_neg e, if_neg e, List.cons_append]
theorem sel_le {bs : List Kn} : ∀ {ys : List V} {ks : List Kn}, (sel bs ys ks).length ≤ ys.length
  | [], ks => by cases ks <;> simp [sel]
  | y :: ys, [] => by simp [sel]
  | y :: ys, k :: ks => by
    have ih := sel_le (bs := bs) (ys := ys) (ks := ks)
    show (if k ∈ bs then sel bs ys ks else y :: sel bs ys ks).length ≤ _
    split <;> simp <;> omega
theorem sel_ks {K : PySem.W.Frag} {H : Hp} {bs : List Kn} {ys : List V} {ks : List Kn} (h : Ks K H ys ks) : Ks K H (sel bs ys ks) (ks.filter fun k => !decide (k ∈ bs)) := by
  induction h with
  | nil => exact .nil
  | @cons v vs k ks a _ ih =>
    show Ks K H (if k ∈ bs then sel bs vs ks else v :: sel bs vs ks) _
    by_cases e : k ∈ bs
    · rw [if_pos e, List.filter_cons_of_neg (by simp [e])]
      exact ih
    · rw [if_neg e, List.filter_cons_of_pos (by simp [e])]
      exact .cons a ih
/-- the drawer: the new list, the block's names -/
def ConS (bs R0 : List Kn) (D Ca : Addr) : Con where
  cs := [D, Ca]
  CI := fun ys h => (∃ (acc : Array Value) (c : Nat), Vals (sel bs ys R0) acc.toList ∧ h.get? D = some (lstObj acc c)) ∧ ∃ m, h.Ns Ca m
  stay := fun {ys h h'} k ⟨⟨acc, c, r, e⟩, m, o, es, ep, ho, q⟩ => ⟨⟨acc, c, r, k D (by simp) _ e⟩, m, o, es, ep, k Ca (by simp) _ ho, q⟩
  has := fun {ys h} ⟨⟨acc, c, r, e⟩, m, o, es, ep, ho, hd, _⟩ b hb => by
    rcases List.mem_cons.mp hb with z | z
    · subst z
      exact ⟨_, e, fun v z => by cases z⟩
    · rw [show b = Ca from by simpa using z]
      exact ⟨o, ho, fun v z => by rw [hd] at z; cases z⟩
section
variable {X : Cx} {k i jz : Nat} {e2 : Expr} {y z : Str} {py p0 p1 p2 p3 cpos : Pos} {scope : Scope} {t : L2.St → Hp → (List V → V → Hp → Prop) → (List V → Hp → Prop) → (Hp → Prop) → Prop}
theorem blk_cell {cells : List (Str × Addr)} {c : Addr} {n : Nat} (hfree : ∀ y ∈ scope.names, y.2 = .free → ∃ c, cells.lookup y.1 = some c) (uniq : ∀ y ∈ scope.names, scope.names.lookup y.1 = some y.2) (hz : scope.names.lookup z = some .free) (hc : cells.lookup z = some c) (hn : ∀ y ∈ scope.names, y.2 ≠ .cell) :
    (cellsFrom n scope.names (cloFrom cells scope.names [])).lookup z = some c := by
  have nc : ∀ (names : List (Str × NameKind)) (n : Nat) (acc : List (Str × Addr)), (∀ y ∈ names, y.2 ≠ .cell) → cellsFrom n names acc = acc := by
    intro names
    induction names with
    | nil => intro n acc _; rfl
    | cons a r ih =>
      intro n acc h
      obtain ⟨m, kk⟩ := a
      unfold cellsFrom
      have h1 : kk ≠ .cell := h (m, kk) (by simp)
      split
      · rename_i q
        exact absurd (by simpa using q) h1
      · exact ih n acc fun y hy => h y (by simp [hy])
  rw [nc _ _ _ hn]
  exact NdefX.clo_has hfree (PySem.mem_of_lookup hz) hc
/-- the reading: what is told of each, in the end -/
def ydOf (K : PySem.W.Frag) (H : Hp) (R0 : List Kn) : List V → V → Hp → Prop := fun ys x H' => Same H H' ∧ ∃ n k, Ks K H' ys (R0.take n) ∧ R0[n]? = some k ∧ KindAt K H' x k
def tSel (K : PySem.W.Frag) (jz : Nat) (t : L2.St → Hp → (List V → V → Hp → Prop) → (List V → Hp → Prop) → (Hp → Prop) → Prop) : TE := fun σ H Q => ∃ (a : Addr) (vs : List V) (bs R0 : List Kn), σ[jz]? = some (some (.ref a)) ∧ SqL K H a vs ∧ Ks K H vs bs ∧ R0.length ≤ 27 ∧
  t σ H (ydOf K H R0) (fun ys H' => Same H H' ∧ Ks K H' ys R0) (fun H1 => H1 = H) ∧ ∀ H' p ys, Same H H' → H p = none → H' p = some (.lst ys) → Ks K H' ys (R0.filter fun k => !decide (k ∈ bs)) → Q (.ref p) H'
theorem pe_sel (hp : PMdR X k e2 t E0) (hc : X.calm = true) (hxe : ∀ e s, ¬ X.xe e s) (hr : Room (k + 1) X.A) (hu : X.A.units + 65 < cLine) (hz : X.N[jz]? = some z) (hzc : X.env.scope.names.lookup z = some .cell)
    (ok : BlkOk X.N X.env.scope scope [(y, i)]) (hsz : scope.names.lookup z = some .free) (hnc : ∀ y ∈ scope.names, y.2 ≠ .cell) (hkY : ∀ C cl, (compEnvC scope cl C X.env).kindOf y = some .local) (hkZ : ∀ C cl, (compEnvC scope cl C X.env).kindOf z = some .cell) (hkF : ∀ C cl, (compEnvC scope cl C X.env).scope.kind = .function)
    (hs : ∀ v, foldedSetIterable e2 X.env v = pure v := by intro _; rfl) (dy : (y == ("__debug__" : Str)) = false := by decide) (dz : (z == ("__debug__" : Str)) = false := by decide) :
    PE X (.ListComp (.Name y py) [⟨.Name y p0, e2, [.Compare (.Name y p1) [.NotIn] [.Name z p2] p3], 0⟩] scope cpos) (tSel X.K jz t) := by
  refine ⟨fun pins s σ H Q I h => ?_⟩
  obtain ⟨a, vs, bs, R0, hsz2, hq, hks, h27, ht, hQ⟩ := h
  have hfree : ∀ y ∈ scope.names, y.2 = .free → ∃ c, X.env.cells.lookup y.1 = some c := fun y hy e => (ok.free y hy e).elim (fun k => I.ok.has _ (.inl k)) fun k => I.ok.has _ (.inr k)
  have cp : NdefX.Caps X X.env.cells [z] [jz] := ⟨fun _ _ e => e, fun y hy => .inl (by rw [show y = z from by simpa using hy]; exact hzc), fun _ _ _ e => e, by simp [hz]⟩
  rw [eval_ListComp]
  refine wpAny_comprehension_free rfl hs (closure_ok hfree) ok.kind (fun y hy e => by rw [ok.uniq y hy, e]) (wpAny_mono (hp.run pins s σ H _ _ _ I ht) (fun u s1 ⟨H1, sc, I1, hM, eH⟩ => ?_) fun e s' z => (hxe e s' z).elim)
  subst eH
  obtain ⟨ga, g, c, rfl, ha1, ha2, hg, hgs, hos, hb, hl, hkp, wake⟩ := hM
  refine wpAny_pyIter_gen hg ?_
  refine wpAny_newObj_type (newEnv_comp ?_) (by show 0 ≤ sizeLine; decide)
  have hDn : H1 s1.heap.objs.size = none := I1.hok.fresh (Nat.le_trans ha1 (Nat.le_of_lt ha2))
  have hscD : sc.heap.objs.size ≤ s1.heap.objs.size := Nat.le_trans ha1 (Nat.le_of_lt ha2)
  generalize hh2 : s1.heap.push { cls := .type "list", data := .seq ([] : List Value).toArray } = h2
  have zD : h2.objs.size = s1.heap.objs.size + 1 := by rw [← hh2]; exact Heap.size_push ..
  show codeAny _ _ (.compStart _ 0 (.ref ga) (.ref s1.heap.objs.size) (compEnvC scope (cellsFrom (h2.objs.size + 1) scope.names (cloFrom X.env.cells scope.names [])) h2.objs.size X.env)) (compPost (model X.prog X.w) X.A X.xe none _ (.ref s1.heap.objs.size) h2.objs.size) { s1 with heap := pushCells (h2.push { cls := .type "dict", data := .dict #[] }) scope.names }
  have hcB : ∀ {c1}, X.env.cells.lookup z = some c1 → (cellsFrom (h2.objs.size + 1) scope.names (cloFrom X.env.cells scope.names [])).lookup z = some c1 := fun {c1} e => blk_cell hfree ok.uniq hsz e hnc
  have kY := hkY h2.objs.size (cellsFrom (h2.objs.size + 1) scope.names (cloFrom X.env.cells scope.names []))
  have kZ := hkZ h2.objs.size (cellsFrom (h2.objs.size + 1) scope.names (cloFrom X.env.cells scope.names []))
  have kF := hkF h2.objs.size (cellsFrom (h2.objs.size + 1) scope.names (cloFrom X.env.cells scope.names []))
  have cL : (compEnvC scope (cellsFrom (h2.objs.size + 1) scope.names (cloFrom X.env.cells scope.names [])) h2.objs.size X.env).locals = h2.objs.size := rfl
  have cC : (compEnvC scope (cellsFrom (h2.objs.size + 1) scope.names (cloFrom X.env.cells scope.names [])) h2.objs.size X.env).cells = cellsFrom (h2.objs.size + 1) scope.names (cloFrom X.env.cells scope.names []) := rfl
  have hpS : ((compEnvC scope (cellsFrom (h2.objs.size + 1) scope.names (cloFrom X.env.cells scope.names [])) h2.objs.size X.env).scope.kind == .class || ((compEnvC scope (cellsFrom (h2.objs.size + 1) scope.names (cloFrom X.env.cells scope.names [])) h2.objs.size X.env).scope.kind == .module && (compEnvC scope (cellsFrom (h2.objs.size + 1) scope.names (cloFrom X.env.cells scope.names [])) h2.objs.size X.env).locals != (compEnvC scope (cellsFrom (h2.objs.size + 1) scope.names (cloFrom X.env.cells scope.names [])) h2.objs.size X.env).globals)) = false := by
    rw [kF]
    rfl
  generalize hce : compEnvC scope (cellsFrom (h2.objs.size + 1) scope.names (cloFrom X.env.cells scope.names [])) h2.objs.size X.env = ce at kY kZ kF cL cC hpS ⊢
  have kp4 : ∀ b o, s1.heap.get? b = some o → (pushCells (h2.push { cls := .type "dict", data := .dict #[] }) scope.names).get? b = some o := fun b o e => pushCells_keeps _ _ _ _ (Heap.get?_push_of_some _ (by rw [← hh2]; exact Heap.get?_push_of_some _ e))
  have hD4 : (pushCells (h2.push { cls := .type "dict", data := .dict #[] }) scope.names).get? s1.heap.objs.size = some (lstObj #[] 0) := pushCells_keeps _ _ _ _ (Heap.get?_push_of_some _ (by rw [← hh2]; exact Heap.get?_push_size _ rfl))
  have hC4 : (pushCells (h2.push { cls := .type "dict", data := .dict #[] }) scope.names).Ns h2.objs.size fun _ => none := (Heap.Ns.new h2 (.type "dict")).at' fun o e => pushCells_keeps _ _ _ _ e
  generalize hh4 : pushCells (h2.push { cls := .type "dict", data := .dict #[] }) scope.names = h4 at kp4 hD4 hC4 ⊢
  generalize hDe : s1.heap.objs.size = D at hDn hscD zD hD4 ⊢
  generalize hCe : h2.objs.size = Ca at zD cL hC4 ⊢
  have hlt : D < Ca := by rw [zD]; exact Nat.lt_succ_self D
  have hDC : D ≠ Ca := Nat.ne_of_lt hlt
  have gaDlt : ga < D := by rw [← hDe]; exact ha2
  have gaD : ga ≠ D := Nat.ne_of_lt gaDlt
  have gaC : ga ≠ Ca := Nat.ne_of_lt (Nat.lt_trans gaDlt hlt)
  have csD : cStatics ≠ D ∧ cStatics ≠ Ca := by
    obtain ⟨m, hn, _⟩ := hl
    have z := hn.lt
    rw [hDe] at z
    exact ⟨Nat.ne_of_lt z, Nat.ne_of_lt (Nat.lt_trans z hlt)⟩
  have goes : ∀ {gs : GenState} {B : Around} {n : Nat} {r : Resume} {s : Shared}, gs.Goes (model X.prog X.w) B (RG X.prog X.w X.stack H1 sc (ConS bs R0 D Ca) ga g (fun ys H' => Same H1 H' ∧ Ks X.K H' ys R0) E0) (YG X.prog X.w X.stack H1 sc (ConS bs R0 D Ca) ga g (ydOf X.K H1 R0)) n r s →
      gs.Goes (model X.prog X.w) B (fun n s₀ r s1 => ((r = .ok (.ret .none) ∨ r = .ok .next) ∧ (∃ H' ys, s1.os = sc.os ∧ AllBare s1.gens ∧ Un (frs X.stack) [] H1 H' sc.heap s1.heap ∧ HOk X.prog X.w H' s1.heap ∧ (∀ b ∈ (ConS bs R0 D Ca).cs, H' b = none) ∧ (ConS bs R0 D Ca).CI ys s1.heap ∧ ys.length ≤ sizeLine ∧ Same H1 H' ∧ Ks X.K H' ys R0)) ∨
        ∃ e, r = .error e ∧ (L2.CX X.prog X.w X.stack H1 sc E0 e s1 ∧ s1.heap.IsGen ga g)) (YG X.prog X.w X.stack H1 sc (ConS bs R0 D Ca) ga g (ydOf X.K H1 R0)) n r s := fun h => h
  have loop : codeAny (model X.prog X.w) X.A (.compLoop (.ListComp (.Name y py) [⟨.Name y p0, e2, [.Compare (.Name y p1) [.NotIn] [.Name z p2] p3], 0⟩] scope cpos) 0 (.ref ga) (.ref D) ce) (compPost (model X.prog X.w) X.A X.xe none (EP X pins σ Q) (.ref D) Ca) { s1 with heap := h4 } := by
    refine compLoop_any (fun n s' => s'.heap.IsGen ga g ∧ s'.heap.NoLimit ∧ ∃ gs, s'.gens[g]? = some gs ∧ gs.Goes (model X.prog X.w) X.A.in1 (RG X.prog X.w X.stack H1 sc (ConS bs R0 D Ca) ga g (fun ys H' => Same H1 H' ∧ Ks X.K H' ys R0) E0) (YG X.prog X.w X.stack H1 sc (ConS bs R0 D Ca) ga g (ydOf X.K H1 R0)) n (.send .none) (s'.setGen g .running)) ?_ sizeLine
      ⟨hg.keeps kp4, hl.keeps kp4, .fresh c, hgs, rfl, wake X.A.in1 (ConS bs R0 D Ca) _ ⟨hr.hd, ?_, ?_⟩ I1.ok.frames (fun b hb => ?_) kp4 ⟨⟨#[], 0, .nil, hD4⟩, _, hC4⟩ hos (allBare_setGen (s := { s1 with heap := h4 }) hb rfl)⟩
    · rintro n s5 ⟨hg5, hl5, gs, hgs5, hgo⟩
      have hgl : g < s5.gens.size := (Array.getElem?_eq_some_iff.mp hgs5).1
      refine wpAny_gsz (n := g + 1) hgl (next_genG (A := X.A) (I1.ok.hd hc) hl5 (by have := hr.dp; show X.A.depth < _; omega) hg5 hgs5 (goes hgo) (fun v s6 gs' hbare hv => ?_) (fun s6 hpn h' hk => ?_) fun e s6 he => ?_)
      · intro hsz
        obtain ⟨ys, x, H', hny, rv, os6, bare6, lim6, gen6, un6, hok6, csn, ⟨⟨acc, cnt, hacc, hD6⟩, m6, hC6⟩, ⟨sm6, nn, kn, hys, hkn, hkx⟩, hkap⟩ := hv
        have hlen : ys.length = nn := by
          have z1 := hys.len
          rw [List.length_take] at z1
          have z2 : nn < R0.length := (List.getElem?_eq_some_iff.mp hkn).1
          omega
        rw [← hlen] at hkn
        have bare7 : AllBare (s6.setGen g gs').gens := allBare_setGen bare6 hbare
        have J : Inv X pins σ H' (s6.setGen g gs') := I1.call' (ch := []) os6 un6 hok6 bare7 fun b hb => absurd hb (by simp)
        have fC : FpOk X pins H' Ca := I1.fpOk (Nat.le_trans hscD (Nat.le_of_lt hlt)) (csn Ca (by simp [ConS]))
        -- the turn's end
        have hsz1 : g < s6.gens.size := by
          have q : (s6.setGen g gs').gens.size = s6.gens.size := setGen_size _ _ _
          have hsz' : g + 1 ≤ (s6.setGen g gs').gens.size := hsz
          omega
        have fin : ∀ (h8 : Heap) (tk8 : Nat), (∀ b o, b ≠ D → b ≠ Ca → s6.heap.get? b = some o → h8.get? b = some o) → (ConS bs R0 D Ca).CI (ys ++ [x]) h8 →
            ∃ m, m < n ∧ Heap.IsGen h8 ga g ∧ Heap.NoLimit h8 ∧ ∃ gs, (s6.setGen g gs').gens[g]? = some gs ∧ gs.Goes (model X.prog X.w) X.A.in1 (RG X.prog X.w X.stack H1 sc (ConS bs R0 D Ca) ga g (fun ys H' => Same H1 H' ∧ Ks X.K H' ys R0) E0) (YG X.prog X.w X.stack H1 sc (ConS bs R0 D Ca) ga g (ydOf X.K H1 R0)) m (.send .none) (Shared.setGen { (s6.setGen g gs') with heap := h8, toks := tk8 } g .running) := by
          intro h8 tk8 kp8 ci8
          have sl : Slp (ConS bs R0 D Ca) (ys ++ [x]) s6 (Shared.setGen { (s6.setGen g gs') with heap := h8, toks := tk8 } g .running) := ⟨rfl, allBare_setGen (s := { (s6.setGen g gs') with heap := h8, toks := tk8 }) bare7 rfl, fun b o hb e => kp8 b o (fun z => hb (by simp [ConS, z])) (fun z => hb (by simp [ConS, z])) e, ci8⟩
          have zk := hkap _ sl
          have g8 : Heap.IsGen h8 ga g := by
            obtain ⟨o, nm, qn, ho, r⟩ := gen6
            exact ⟨o, nm, qn, kp8 _ o gaD gaC ho, r⟩
          have l8 : Heap.NoLimit h8 := by
            obtain ⟨mc, hns, hnn⟩ := lim6
            exact ⟨mc, hns.at' fun o e => kp8 _ o csD.1 csD.2 e, hnn⟩
          cases n with
          | zero => exact zk.elim
          | succ m => exact ⟨m, Nat.lt_succ_self m, g8, l8, gs', setGen_at hsz1, zk⟩
        -- the store
        show wpAny _ _ (pure ()) _ _ _
        refine wpAny_pure (wpAny_assign_Name (wpAny_storeName_local kY (by rw [cL]; exact hC6) (fun h7 hn7 sb7 => ?_) hpS))
        rw [cL] at hn7 sb7
        have J7 : Inv X pins σ H' { (s6.setGen g gs') with heap := h7, toks := s6.toks + 1 } := by
          obtain ⟨f0, f1, f2, f3, f4, f5⟩ := fC
          exact J.turned (t' := s6.toks + 1) (fun b o hb e => (sb7.2 b hb).trans e) f0 f1 f3 f4 f5
        -- the test
        have cells := NdefX.cells_of J7 cp
        obtain ⟨c1, hc1, hv1⟩ := cells.has 0 z rfl
        obtain ⟨uB, rB, hB⟩ := hv1 (.ref a) (by show [NdefX.slotAt σ jz][0]? = _; rw [NdefX.slotAt_of hsz2]; rfl)
        obtain rfl : uB = Value.ref a := rB
        have hq7 : SqL X.K H' a vs := by
          rcases hq with (h | ⟨o, h⟩) | h
          · exact .inl (.inl (sm6 _ _ h))
          · exact .inl (.inr ⟨o, sm6 _ _ h⟩)
          · exact .inr h
        have hks7 := hks.same sm6
        refine wpAny_tests_one (wpAny_isTrue_Compare1 (wpAny_Name (wpAny_loadName_local (v := v) kF kY (by rw [cL]; exact hn7) (by simp) ?_) dy))
        refine wpAny_Name (wpAny_loadName_cell (c := c1) (v := .ref a) kF kZ (by rw [cC]; exact hcB hc1) hB ?_) dz
        obtain ⟨as1, r1⟩ := Dp.reads J7 (kd kn) x v hkx.dp rv
        obtain ⟨as2, r2⟩ := Dp.reads J7 (.list (bs.map kd)) (.ref a) (.ref a) (.lst hq7 hks7.dp) rfl
        refine SeqAt.notIn_list_reads r2 r1 (SeqAt.canLay_of_shaped (kds_shaped bs)) (SeqAt.canLay_of_shaped (kd_shaped kn)) (room_in_shaped (kd_shaped kn) hu) (wpAny_truthy_bool ?_)
        rw [kds_any]
        have hD7 : h7.get? D = some (lstObj acc cnt) := (sb7.2 D hDC).trans hD6
        have kp7 : ∀ b o, b ≠ D → b ≠ Ca → s6.heap.get? b = some o → h7.get? b = some o := fun b o _ h e => (sb7.2 b h).trans e
        by_cases hin : kn ∈ bs
        · rw [if_neg (by simp [hin])]
          refine fin h7 _ kp7 ⟨⟨acc, cnt, ?_, hD7⟩, _, hn7⟩
          rw [sel_snoc hkn, if_pos hin, List.append_nil]
          exact hacc
        · rw [if_pos (by simp [hin])]
          refine wpAny_Name (wpAny_loadName_local (v := v) kF kY (by rw [cL]; exact hn7) (by simp) ?_) dy
          have hasz : acc.size ≤ 27 := by
            have z1 : (sel bs ys R0).length = acc.size := by
              have z0 := hacc.length
              simpa using z0
            have z2 := sel_le (bs := bs) (ys := ys) (ks := R0)
            have z3 : nn < R0.length := by
              have z4 := (List.getElem?_eq_some_iff.mp hkn).1
              omega
            omega
          refine append_at hD7 (fun h8 sb8 hD8 => ?_) (Nat.le_trans hasz (by decide))
          refine fin h8 _ (fun b o h1 h2 e => (sb8.2 b h1).trans (kp7 b o h1 h2 e)) ⟨⟨acc.push v, cnt + 1, ?_, hD8⟩, _, hn7.sameBut sb8 (fun e => hDC e.symm)⟩
          rw [sel_snoc hkn, if_neg hin, Array.toList_push]
          exact hacc.append (.cons rv .nil)
      · intro hsz
        obtain ⟨H', ys, os6, bare6, un6, hok6, csn, ⟨⟨acc, cnt, hacc, hD6⟩, m6, hC6⟩, hle, sm6, hys⟩ := hpn
        have hlen : (sel bs ys R0).length ≤ sizeLine := Nat.le_trans sel_le hle
        have bare7 : AllBare ({ s6.setGen g .finished with heap := h' } : Shared).gens := allBare_setGen bare6 rfl
        have J : Inv X pins σ (upd H' D (.lst (sel bs ys R0))) { s6.setGen g .finished with heap := h' } :=
          I1.drained (ex := []) hscD hlen (hk _ _ hD6) hacc ExOk.nil os6 bare7 (un6.trans (Un.kept hk)) (hok6.kept hk) (csn D (by simp [ConS]))
        have nC : upd H' D (.lst (sel bs ys R0)) Ca = none := (upd_ne (fun e => hDC e.symm)).trans (csn Ca (by simp [ConS]))
        have fC : FpOk X pins (upd H' D (.lst (sel bs ys R0))) Ca := I1.fpOk (Nat.le_trans hscD (Nat.le_of_lt hlt)) nC
        refine ⟨m6, hC6.at' fun o e => hk _ o e, fun h9 sb9 => ?_⟩
        obtain ⟨f0, f1, f2, f3, f4, f5⟩ := fC
        have smD := same_new (o := .lst (sel bs ys R0)) (csn D (by simp [ConS]))
        exact ⟨.ref D, _, J.turned (t' := s6.toks) (fun b o hb e => (sb9.2 b hb).trans e) f0 f1 f3 f4 f5, rfl, hQ _ D _ (sm6.trans smD) hDn upd_same ((sel_ks hys).same smD)⟩
      · obtain ⟨⟨_, _, _, _, _, _, _, _, _, _, _, _, ee⟩, _⟩ := he
        exact ee.elim
    · have := hr.dp
      show X.A.depth + 3 * k + 5 < _
      omega
    · have := hr.un
      show X.A.units + 1 + 16 * k + 200 < _
      omega
    · have e : b = D ∨ b = Ca := by simpa [ConS] using hb
      show s1.heap.objs.size ≤ b
      rw [hDe]
      rcases e with e | e
      · rw [e]; exact Nat.le_refl _
      · rw [e]; exact Nat.le_of_lt hlt
  have z := codeAny_compStart_list loop (wpAny_pyIter_gen (hg.keeps kp4) loop)
  exact z
end
end Kd
/-! K17: _law_right -/
namespace Kd
open PySem PySem.Spec PyProof.Rows L2
/-! ### the plain law -/
theorem law_up : ∀ a b : Kn, decide (((res (some a) none).filter fun k => !decide (k ∈ res (some b) none)) = []) = loose a b := fun ⟨a1, a2, a3⟩ ⟨b1, b2, b3⟩ => (by decide +kernel : ∀ a1 a2 a3 b1 b2 b3 : F3, decide (((res (some (a1, a2, a3)) none).filter fun k => !decide (k ∈ res (some (b1, b2, b3)) none)) = []) = loose (a1, a2, a3) (b1, b2, b3)) a1 a2 a3 b1 b2 b3
theorem law_down : ∀ a b : Kn, decide (((res none (some b)).filter fun k => !decide (k ∈ res none (some a))) = []) = loose a b := fun ⟨a1, a2, a3⟩ ⟨b1, b2, b3⟩ => (by decide +kernel : ∀ a1 a2 a3 b1 b2 b3 : F3, decide (((res none (some (b1, b2, b3))).filter fun k => !decide (k ∈ res none (some (a1, a2, a3)))) = []) = loose (a1, a2, a3) (b1, b2, b3)) a1 a2 a3 b1 b2 b3
theorem law_mid : ∀ a b : Kn, res (some b) (some a) = (res (some b) none).filter fun k => decide (k ∈ res none (some a)) := fun ⟨a1, a2, a3⟩ ⟨b1, b2, b3⟩ => (by decide +kernel : ∀ a1 a2 a3 b1 b2 b3 : F3, res (some (b1, b2, b3)) (some (a1, a2, a3)) = (res (some (b1, b2, b3)) none).filter fun k => decide (k ∈ res none (some (a1, a2, a3)))) a1 a2 a3 b1 b2 b3
theorem law_some : ∀ a b : Kn, (!decide (res (some b) (some a) = [])) = loose a b := fun ⟨a1, a2, a3⟩ ⟨b1, b2, b3⟩ => (by decide +kernel : ∀ a1 a2 a3 b1 b2 b3 : F3, (!decide (res (some (b1, b2, b3)) (some (a1, a2, a3)) = [])) = loose (a1, a2, a3) (b1, b2, b3)) a1 a2 a3 b1 b2 b3
theorem law_ends : ∀ a b : Kn, loose a b = true → a ∈ res (some b) (some a) ∧ b ∈ res (some b) (some a) := fun ⟨a1, a2, a3⟩ ⟨b1, b2, b3⟩ => (by decide +kernel : ∀ a1 a2 a3 b1 b2 b3 : F3, loose (a1, a2, a3) (b1, b2, b3) = true → (a1, a2, a3) ∈ res (some (b1, b2, b3)) (some (a1, a2, a3)) ∧ (b1, b2, b3) ∈ res (some (b1, b2, b3)) (some (a1, a2, a3))) a1 a2 a3 b1 b2 b3
theorem res_le : ∀ ol om : Option Kn, (res ol om).length ≤ 27 := fun ol om => Nat.le_trans (List.length_filter_le _ _) (by rw [allK_len]; exact Nat.le_refl _)
/-! ### a comprehension that keeps some kinds of a list -/
theorem Tk.lstUpd {H : Hp} {D : Addr} {xs ys : List V} (h : H D = some (.lst xs)) : Tk H (upd H D (.lst ys)) :=
  ⟨fun b zs e => by rw [upd_ne (ne_of e h (by intro z; cases z))]; exact e, fun b o u e => by rw [upd_ne (ne_of e h (by intro z; cases z))]; exact e⟩
theorem lcf {K : PySem.W.Frag} {a D : Addr} {xs : List V} {R : List Kn} {σ : L2.St} {j : Nat} {H1 : Hp} {tt : TT} {Qd : Hp → Prop} (P : Kn → Bool) (hD : H1 D = none) (hq : SqL K H1 a xs) (hk : Ks K H1 xs R) (hj : j < σ.length) (h27 : R.length ≤ 27)
    (ht : ∀ x k H2 (Rr : Bool → Hp → Prop), Same H1 H2 → KindAt K H2 x k → Rr (P k) H2 → tt ((wipe σ [j]).set j (some x)) H2 Rr) (hQ : ∀ H2 ys, Same H1 H2 → H2 D = some (.lst ys) → Ks K H2 ys (R.filter P) → Qd H2) :
    ∃ W : Nat → Nat → Hp → Prop, (∃ m, W 0 m (upd H1 D (.lst []))) ∧ ∀ i m H, W i m H →
      ((Itl K a).stop i H ∧ Qd H) ∨ ((Itl K a).go i H ∧ ∃ Nx : Hp → Prop, (∀ H', Nx H' → ∃ m', m' < m ∧ W (i + 1) m' H') ∧ ∀ x H', (Itl K a).yld i H x H' → gName j x (wipe σ [j]) H' fun σ2 H2 => wipe σ2 [j] = wipe σ [j] ∧ tt σ2 H2 fun b H3 =>
        if b = true then tVar j σ2 H3 fun y H4 => ∃ acc, H4 D = some (.lst acc) ∧ acc.length < sizeLine ∧ Nx (upd H4 D (.lst (acc ++ [y]))) else Nx H3) := by
  have sql : ∀ {H2 : Hp}, Same H1 H2 → SqL K H2 a xs := fun {H2} e => by
    rcases hq with (h | ⟨o, h⟩) | h
    · exact .inl (.inl (e _ _ h))
    · exact .inl (.inr ⟨o, e _ _ h⟩)
    · exact .inr h
  refine lc_list (K := K) (a := a) (xs := xs) (fun i H2 => Same H1 H2 ∧ ∃ ys, H2 D = some (.lst ys) ∧ Ks K H2 ys ((R.take i).filter P)) ⟨same_new hD, [], upd_same, .nil⟩ (fun i H2 _ ⟨e, _⟩ => sql e) (fun i x H2 hx ⟨e, ys, hy, ky⟩ => ?_) fun H2 ⟨e, ys, hy, ky⟩ => ?_
  · obtain ⟨k, hkk, kx⟩ := (hk.same e).at hx
    refine ⟨?_, ht x k H2 _ e kx (ite2b (fun eb => ?_) fun eb => ?_)⟩
    · show ((σ.set j none).set j (some x)).set j none = σ.set j none
      rw [List.set_set, List.set_set]
    · refine ⟨x, ?_, ys, hy, ?_, fun b o z => ?_, ys ++ [x], upd_same, ?_⟩
      · show ((σ.set j none).set j (some x))[j]? = _
        rw [List.set_set, List.getElem?_set_self hj]
      · rw [ky.len]
        have z1 := List.length_filter_le P (R.take i)
        rw [List.length_take] at z1
        exact Nat.lt_of_le_of_lt (m := 27) (by omega) (by decide)
      · rw [upd_ne (ne_of_none z hD)]
        exact e b o z
      · have e1 : (R.take (i + 1)).filter P = (R.take i).filter P ++ [k] := by
          rw [take_snoc hkk, List.filter_append, List.filter_cons_of_pos eb]
          rfl
        rw [e1]
        exact (ky.tk (Tk.lstUpd hy)).append (.cons (kx.tk (Tk.lstUpd hy)) .nil)
    · refine ⟨e, ys, hy, ?_⟩
      have e1 : (R.take (i + 1)).filter P = (R.take i).filter P := by
        rw [take_snoc hkk, List.filter_append, List.filter_cons_of_neg (by rw [eb]; exact Bool.false_ne_true)]
        simp
      rw [e1]
      exact ky
  · refine hQ H2 ys e hy ?_
    have z : R.take xs.length = R := by
      rw [hk.len]
      exact List.take_length
    rw [z] at ky
    exact ky
end Kd
/-! K18: _law_right -/
namespace Kd
open PySem PySem.Spec PyProof.Rows L2 LamX
abbrev nR : List Str := ["_law_one", "_law_two", "_law_wrong", "_law_is_more", "_law_above", "_law_below", "_law_between", "_law_kind_here"]
theorem scRi : FnScope nR ["_law_one", "_law_two", "_law_wrong"] (defScope (top 22)) := ⟨rfl, rfl, rfl, by decide +kernel, rfl, by decide +kernel, by decide +kernel⟩
def spRight (K : PySem.W.Frag) (Pt : Addr) : Sp := fun vs H Q _ => ∃ v1 v2 wv a b, vs = [v1, v2, wv] ∧ KindAt K H v1 a ∧ KindAt K H v2 b ∧ NotKind H wv ∧ TabS H Pt qA ∧ ∀ H', Nt H H' → TabS H' Pt qA → Q (.bl true) H'
section
variable {K : PySem.W.Frag} {H H2 : Hp} {σ2 : L2.St} {i j : Nat} {x : V} {k : Kn} {p D : Addr} {ys zs : List V} {R R2 : List Kn} {Rr : Bool → Hp → Prop} {Q : VK}
theorem sql_same {l : Addr} {xs : List V} (h : SqL K H l xs) (e : Same H H2) : SqL K H2 l xs := by
  rcases h with (h | ⟨o, h⟩) | h
  · exact .inl (.inl (e _ _ h))
  · exact .inl (.inr ⟨o, e _ _ h⟩)
  · exact .inr h
theorem t_notIn (h1 : σ2[i]? = some (some x)) (h2 : σ2[j]? = some (some (.ref p))) (kx : KindAt K H x k) (q : SqL K H p ys) (ks : Ks K H ys R) (h : Rr (!decide (k ∈ R)) H) : tB (tOp (rNotInD K) (tVar i) (tVar j)) σ2 H Rr := by
  refine ⟨x, h1, .ref p, h2, kd k, R.map kd, kx.dp, .lst q ks.dp, kd_shaped k, kds_shaped R, _, rfl, ?_⟩
  rw [kds_any]
  exact h
theorem t_in (h1 : σ2[i]? = some (some x)) (h2 : σ2[j]? = some (some (.ref p))) (kx : KindAt K H x k) (q : SqL K H p ys) (ks : Ks K H ys R) (h : Rr (decide (k ∈ R)) H) : tB (tOp (rInD K) (tVar i) (tVar j)) σ2 H Rr := by
  refine ⟨x, h1, .ref p, h2, kd k, R.map kd, kx.dp, .lst q ks.dp, kd_shaped k, kds_shaped R, _, rfl, ?_⟩
  rw [kds_any]
  exact h
theorem t_eqNil (hD : H D = some (.lst ys)) (ks : Ks K H ys R) (np : H p = none) (h : Q (.bl (decide (R = []))) (upd H p (.lst []))) : rEqD K (.ref D) (.ref p) (upd H p (.lst [])) Q := by
  have sm := same_new (o := .lst []) np
  refine ⟨.list (R.map kd), .list [], .lst (SqL.of (sm _ _ hD)) (ks.same sm).dp, .lst (SqL.of upd_same) .nil, kds_shaped R, kds_shaped [], ?_⟩
  have e := kds_eqv R []
  rw [List.map_nil] at e
  rw [e]
  exact h
theorem t_neNil (hD : H D = some (.lst ys)) (ks : Ks K H ys R) (np : H p = none) (h : Q (.bl (!decide (R = []))) (upd H p (.lst []))) : rNeD K (.ref D) (.ref p) (upd H p (.lst [])) Q := by
  have sm := same_new (o := .lst []) np
  refine ⟨.list (R.map kd), .list [], .lst (SqL.of (sm _ _ hD)) (ks.same sm).dp, .lst (SqL.of upd_same) .nil, kds_shaped R, kds_shaped [], ?_⟩
  have e := kds_eqv R []
  rw [List.map_nil] at e
  rw [e]
  exact h
theorem t_neBl {x : Bool} {Q' : Bool → Hp → Prop} (h : Q' false H) : rNe (.bl x) (.bl x) H (fun v H' => ∃ k, v = .bl k ∧ Q' k H') := ⟨rfl, false, by simp, h⟩
theorem t_ne (q1 : SqL K H D ys) (ks : Ks K H ys R) (q2 : SqL K H p zs) (ks2 : Ks K H zs R2) (h : Q (.bl (!decide (R = R2))) H) : rNeD K (.ref D) (.ref p) H Q := by
  refine ⟨.list (R.map kd), .list (R2.map kd), .lst q1 ks.dp, .lst q2 ks2.dp, kds_shaped R, kds_shaped R2, ?_⟩
  rw [kds_eqv]
  exact h
end
section
variable {P : Program} {w : World} {K : PySem.W.Frag} {mg : Str → Option Value} {base : Heap} {Pt : Addr}
theorem ok_right {fd : FuncData} (T : Tx K mg) (F : FnT K "_law_right" 22 fd) (hL : Has P w K mg base (L2.CX P w) 3 "is_as_loose" ["kind", "other"] (spLoose K)) (G : HasG P w K mg base) (hU : Has P w K mg base CX0 8 "_law_ups" ["_law_kind_here"] (spUps K))
    (hA : Has P w K mg base CX0 10 "_law_are_refused" ["_law_kind_here", "_law_wrong"] (spAre K Pt)) : FnOk P w K mg base CX0 11 (He.ga K "_law_right") fd ["_law_one", "_law_two", "_law_wrong"] (spRight K Pt) := by
  have gl : mg "list" = none := T.fre _ (by decide)
  obtain ⟨fdG, JG, kpG, gmG, FG⟩ := id G
  obtain ⟨gB, hbM⟩ := bd_M FG
  refine F.ok scRi (fun vs H Q E h => ?_) (fun cdv A outer s H vs Q E hr h => ?_)
  · obtain ⟨v1, v2, wv, a, b, rfl, _⟩ := h
    rfl
  have hu : (A.deeper (envOfC "_law_right" (defScope (top 22)) s.heap.objs.size (He.ga K "_law_right") cdv)).units + 65 < cLine := by
    have := hr.un
    omega
  have hu4 : (A.deeper (envOfC "_law_right" (defScope (top 22)) s.heap.objs.size (He.ga K "_law_right") cdv)).units + 64 < cLine := by omega
  refine ⟨_, PSs.nox (
    pss_cons (ps_asg (pe_tup (pa_cons (pe_has hL hr passL (pa_cons (pv 0) (pa_cons (pv 1) pa_nil))) (pa_cons (pe_has hU hr pass0 (pa_cons (pv 1) pa_nil)) (pa_cons (pe_lkM (E := E0) G hr passL E0_stop gl (pv 0)) pa_nil))))
      (pg_tup rfl (pgs_cons (pg_name (i := 3) scRi.nd rfl (.inl rfl)) (pgs_cons (pg_name (i := 4) scRi.nd rfl (.inr rfl)) (pgs_cons (pg_name (i := 5) scRi.nd rfl (.inr rfl)) pgs_nil)))))
    (pss_cons (ps_if (pt_cmpR op_ne (pv 3) (pe_cmpR (op_eqD hu4) (pe_lc (own := [("_law_kind_here", 7)]) (g := gName 7) (tt := tB (tOp (rNotInD K) (tVar 7) (tVar 4))) (te := tVar 7) rfl scRi.nd (pi_list (pe_has hU hr pass0 (pa_cons (pv 0) pa_nil))) (blkOk_by (N := nR) (sc := defScope (top 22)) (by decide +kernel))
        (fun _ _ _ _ _ => pg_name (i := 7) scRi.nd rfl (.inl rfl)) (fun _ _ _ _ _ => pts_one (pt_cmpR (op_notInD hu) (pv 7) (pv 4) rfl)) (fun _ _ _ _ _ => pv 7)) (pe_lst pa_nil) rfl) (nomark _)) (pss_one (ps_ret pe_bl)) pss_nil)
    (pss_cons (ps_if (pt_cmpR op_ne (pv 3) (pe_cmpR (op_eqD hu4) (pe_sel (jz := 5) (i := 7) (pmdr_callK (E := E0) JG (hr.mono (j := 4) (by decide)) rfl gmG kpG hbM (pk_cons (nm := some "most") (pv 1) pk_nil)) rfl (fun _ _ z => z) (hr.mono (by decide)) hu rfl rfl (blkOk_by (N := nR) (sc := defScope (top 22)) (by decide +kernel)) rfl (by decide +kernel) (fun _ _ => rfl) (fun _ _ => rfl) (fun _ _ => rfl)) (pe_lst pa_nil) rfl) (nomark _)) (pss_one (ps_ret pe_bl)) pss_nil)
    (pss_cons (ps_set (i := 6) scRi.nd rfl (.inl rfl) (pe_lkLM (E := E0) G hr passL E0_stop gl (pv 1) (pv 0)))
    (pss_cons (ps_if (PW.pt (pw_or (pt_cmpR (op_neD hu4) (pv 6) (pe_lc (own := [("_law_kind_here", 7)]) (g := gName 7) (tt := tB (tOp (rInD K) (tVar 7) (tVar 5))) (te := tVar 7) rfl scRi.nd (pi_list (pv 4)) (blkOk_by (N := nR) (sc := defScope (top 22)) (by decide +kernel))
        (fun _ _ _ _ _ => pg_name (i := 7) scRi.nd rfl (.inl rfl)) (fun _ _ _ _ _ => pts_one (pt_cmpR (op_inD hu) (pv 7) (pv 5) rfl)) (fun _ _ _ _ _ => pv 7)) (nomark _))
        (pw_or1 (pt_cmpR op_ne (pv 3) (pe_cmpR (op_neD hu4) (pv 6) (pe_lst pa_nil) rfl) (nomark _))))) (pss_one (ps_ret pe_bl)) pss_nil)
    (pss_cons (ps_if (PW.pt (pw_and (pt_val (pv 3)) (pw_and1 (PW.pt (pw_or (pt_cmpR (op_notInD hu) (pv 0) (pv 6) rfl) (pw_or1 (pt_cmpR (op_notInD hu) (pv 1) (pv 6) rfl))))))) (pss_one (ps_ret pe_bl)) pss_nil)
    (pss_one (ps_ret (pe_has hA hr pass0 (pa_cons (pv 0) (pa_cons (pv 2) pa_nil))))))))))), ?_⟩
  obtain ⟨v1, v2, wv, a, b, rfl, h1, h2, hn, tb, q⟩ := h
  -- the three
  refine ⟨_, rfl, _, rfl, _, _, rfl, .inl ⟨a, b, h1, h2, ?_⟩⟩
  refine ⟨_, rfl, v2, b, rfl, h2, fun Ha pa ya sa na ha ka => ?_⟩
  refine ⟨v1, rfl, .inl ⟨none, some a, .inl ⟨rfl, rfl⟩, .inr ⟨a, h1.same sa, rfl⟩, fun Hb pb yb sb nb hb kb => ?_⟩⟩
  refine ⟨by show 3 ≤ sizeLine; decide, fun pt npt => ?_⟩
  refine ⟨pt, _, rfl, SqT.of upd_same, rfl, _, _, rfl, _, _, rfl, _, _, rfl, rfl, ?_⟩
  have st := same_new (o := .tup [.bl (loose a b), .ref pa, .ref pb]) npt
  have s3 : Same H (upd Hb pt (.tup [.bl (loose a b), .ref pa, .ref pb])) := sa.trans (sb.trans st)
  have ha3 := st _ _ (sb _ _ ha)
  have ka3 := ka.same (sb.trans st)
  have hb3 := st _ _ hb
  have kb3 := kb.same st
  clear npt sb sa ha hb ka kb na nb st
  revert s3 ha3 ka3 hb3 kb3
  refine (fun z => z : (∀ Z : Hp, Same H Z → Z pa = _ → Ks K Z _ _ → Z pb = _ → Ks K Z _ _ → _) → _) (fun H3 s3 ha3 ka3 hb3 kb3 => ?_) _
  -- above
  refine ⟨_, rfl, ?_⟩
  refine ⟨_, rfl, v1, a, rfl, h1.same s3, fun Hu pu yu su nu hu1 ku => ⟨pu, rfl, ⟨_, SqL.of hu1⟩, fun D nD => ?_⟩⟩
  refine lcf (K := K) (fun k => !decide (k ∈ res (some b) none)) nD (SqL.of hu1) ku (by show 7 < 8; decide) (res_le _ _) (fun x k H2 Rr sm kx hR => t_notIn rfl rfl kx (SqL.of (sm _ _ (su _ _ ha3))) (ka3.same (su.trans sm)) hR) fun H2 ys sm hD ky => ?_
  refine ⟨by decide, fun p np => t_eqNil hD ky np ?_⟩
  rw [law_up a b]
  refine t_neBl (iteF ?_)
  have s4 : Same H3 (upd H2 p (.lst [])) := su.trans (sm.trans (same_new np))
  clear hu1 ku nD hD ky np sm su
  revert s4
  refine (fun z => z : (∀ Z : Hp, Same H3 Z → _) → _) (fun H4 s4 => ?_) _
  -- below
  refine ⟨_, rfl, ?_⟩
  refine ⟨pb, yb, res none (some a), res none (some b), rfl, SqL.of (s4 _ _ hb3), kb3.same s4, res_le _ _, ?_, fun H5 D ys s5 nD hD ky => ?_⟩
  · refine ⟨v2, rfl, rfl, ⟨_, _, rfl, .inl ⟨none, some b, .inl ⟨rfl, rfl⟩, .inr ⟨b, (h2.same s3).same s4, rfl⟩, fun H' ys x n k sm ks e kx => ⟨sm, n, k, ks, e, kx⟩, fun H' ys sm ks => ⟨sm, ks⟩⟩⟩, rfl⟩
  refine ⟨by decide, fun p2 np2 => t_eqNil hD ky np2 ?_⟩
  rw [law_down a b]
  refine t_neBl (iteF ?_)
  have s6 : Same H3 (upd H5 p2 (.lst [])) := s4.trans (s5.trans (same_new np2))
  clear nD hD ky np2 s5 s4
  revert s6
  refine (fun z => z : (∀ Z : Hp, Same H3 Z → _) → _) (fun H6 s6 => ?_) _
  -- between
  refine ⟨v2, rfl, v1, rfl, .inl ⟨some b, some a, .inr ⟨b, (h2.same s3).same s6, rfl⟩, .inr ⟨a, (h1.same s3).same s6, rfl⟩, fun H7 pm ym s7 nm hm km => ?_⟩⟩
  have t7 : Same H3 H7 := s6.trans s7
  clear s6 s7 nm
  refine ⟨_, rfl, ?_⟩
  refine ⟨_, rfl, pa, rfl, ⟨_, SqL.of (t7 _ _ ha3)⟩, fun D nD => ?_⟩
  refine lcf (K := K) (fun k => decide (k ∈ res none (some a))) nD (SqL.of (t7 _ _ ha3)) (ka3.same t7) (by show 7 < 8; decide) (res_le _ _) (fun x k H2 Rr sm kx hR => t_in rfl rfl kx (SqL.of (sm _ _ (t7 _ _ hb3))) (kb3.same (t7.trans sm)) hR) fun H8 ys s8 hD ky => ?_
  rw [← law_mid a b] at ky
  refine t_ne (SqL.of (s8 _ _ hm)) (km.same s8) (SqL.of hD) ky ?_
  refine ⟨false, by simp, iteF ?_⟩
  have t8 : Same H3 H8 := t7.trans s8
  have hm8 := s8 _ _ hm
  have km8 := km.same s8
  clear hm km s8 t7 nD hD ky
  refine ⟨_, rfl, _, rfl, by decide, fun p9 np9 => t_neNil hm8 km8 np9 ?_⟩
  rw [law_some a b]
  refine t_neBl (iteF ?_)
  have s9 := same_new (o := .lst []) np9
  have t9 : Same H3 (upd H8 p9 (.lst [])) := t8.trans s9
  have hm9 := s9 _ _ hm8
  have km9 := km8.same s9
  clear hm8 km8 t8 np9 s9
  revert t9 hm9 km9
  refine (fun z => z : (∀ Z : Hp, Same H3 Z → Z pm = _ → Ks K Z _ _ → _) → _) (fun H9 t9 hm9 km9 => ?_) _
  have t0 : Same H H9 := s3.trans t9
  have last : ∀ (D : Ends), D.rt = Q → tRet (tHas (spAre K Pt) E0 (tCons (tVar 0) (tCons (tVar 2) tNil))) D [some v1, some v2, some wv, some (.bl (loose a b)), some (.ref pa), some (.ref pb), some (.ref pm), none] H9 := fun D eD =>
    ⟨_, rfl, _, rfl, v1, wv, a, rfl, h1.same t0, hn.same t0, tabS_same tb t0, fun H' n t => by
      show D.rt _ _
      rw [eD]
      exact q H' ((Nt.same t0).trans n) t⟩
  refine ⟨_, rfl, loose a b, rfl, ite2b (fun el => ?_) fun el => ?_⟩
  · obtain ⟨m1, m2⟩ := law_ends a b el
    refine t_notIn rfl rfl (h1.same t0) (SqL.of hm9) km9 ?_
    rw [decide_eq_true m1]
    refine iteF ?_
    refine t_notIn rfl rfl (h2.same t0) (SqL.of hm9) km9 ?_
    rw [decide_eq_true m2]
    exact iteF (last _ rfl)
  · exact iteF (last _ rfl)
theorem has_right {fd : FuncData} (T : Tx K mg) (F : FnT K "_law_right" 22 fd) (hL : Has P w K mg base (L2.CX P w) 3 "is_as_loose" ["kind", "other"] (spLoose K)) (G : HasG P w K mg base) (hU : Has P w K mg base CX0 8 "_law_ups" ["_law_kind_here"] (spUps K))
    (hA : Has P w K mg base CX0 10 "_law_are_refused" ["_law_kind_here", "_law_wrong"] (spAre K Pt)) : Has P w K mg base CX0 11 "_law_right" ["_law_one", "_law_two", "_law_wrong"] (spRight K Pt) :=
  FunD.has T F (ok_right T F hL G hU hA) (by decide) fun _ _ _ _ _ _ us hl => match us, hl with | [_, _, _], _ => rfl
end
end Kd
/-! K19: _law_are_ordered -/
namespace Kd
open PySem PySem.Spec PyProof.Rows L2 LamX
theorem law_same : ∀ a b : Kn, decide (res (some a) none = res (some b) none) = decide (a = b) := fun ⟨a1, a2, a3⟩ ⟨b1, b2, b3⟩ => (by decide +kernel : ∀ a1 a2 a3 b1 b2 b3 : F3, decide (res (some (a1, a2, a3)) none = res (some (b1, b2, b3)) none) = decide ((a1, a2, a3) = (b1, b2, b3))) a1 a2 a3 b1 b2 b3
abbrev nO : List Str := ["_law_some", "_law_tops", "_law_at", "_law_one", "_law_spot", "_law_two", "_law_inside", "_law_kind_here"]
theorem scO : FnScope nO ["_law_some"] (defScope (top 23)) := ⟨rfl, rfl, rfl, by decide +kernel, rfl, by decide +kernel, by decide +kernel⟩
def spOrd (K : PySem.W.Frag) : Sp := fun vs H Q _ => ∃ (a : Addr) (xs : List V) (ks : List Kn), vs = [.ref a] ∧ SqL K H a xs ∧ Ks K H xs ks ∧ ks.length ≤ 64 ∧ ∀ H', Same H H' → Q (.bl true) H'
/-- the lists of what is above, apart from the list D -/
def Tops (K : PySem.W.Frag) (D : Addr) (H : Hp) (ts : List V) (ks : List Kn) : Prop := ts.length = ks.length ∧ ∀ (i : Nat) (k : Kn), ks[i]? = some k → ∃ (p : Addr) (ys : List V), ts[i]? = some (V.ref p) ∧ p ≠ D ∧ H p = some (.lst ys) ∧ Ks K H ys (res (some k) none)
theorem Tops.same {K : PySem.W.Frag} {D : Addr} {H H2 : Hp} {ts : List V} {ks : List Kn} (h : Tops K D H ts ks) (e : Same H H2) : Tops K D H2 ts ks :=
  ⟨h.1, fun i k hi => by
    obtain ⟨p, ys, q1, q2, q3, q4⟩ := h.2 i k hi
    exact ⟨p, ys, q1, q2, e _ _ q3, q4.same e⟩⟩
section
variable {P : Program} {w : World} {K : PySem.W.Frag} {mg : Str → Option Value} {base : Heap}
theorem ok_ord {fd : FuncData} (T : Tx K mg) (F : FnT K "_law_are_ordered" 23 fd) (hL : Has P w K mg base (L2.CX P w) 3 "is_as_loose" ["kind", "other"] (spLoose K)) (hU : Has P w K mg base CX0 8 "_law_ups" ["_law_kind_here"] (spUps K)) :
    FnOk P w K mg base CX0 9 (He.ga K "_law_are_ordered") fd ["_law_some"] (spOrd K) := by
  have ge : mg "enumerate" = none := T.fre _ (by decide)
  refine F.ok scO (fun vs H Q E h => ?_) (fun cdv A outer s H vs Q E hr h => ?_)
  · obtain ⟨a, xs, ks, rfl, _⟩ := h
    rfl
  have hu : (A.deeper (envOfC "_law_are_ordered" (defScope (top 23)) s.heap.objs.size (He.ga K "_law_are_ordered") cdv)).units + 65 < cLine := by
    have := hr.un
    omega
  have hu4 : (A.deeper (envOfC "_law_are_ordered" (defScope (top 23)) s.heap.objs.size (He.ga K "_law_are_ordered") cdv)).units + 64 < cLine := by omega
  refine ⟨_, PSs.nox (
    pss_cons (ps_set (i := 1) scO.nd rfl (.inr rfl) (pe_lc (own := [("_law_kind_here", 7)]) (g := gName 7) (tt := tYes) (te := tHas (spUps K) E0 (tCons (tVar 7) tNil)) rfl scO.nd (pi_list (pv 0)) (blkOk_by (N := nO) (sc := defScope (top 23)) (by decide +kernel))
        (fun _ _ _ _ _ => pg_name (i := 7) scO.nd rfl (.inl rfl)) (fun _ _ _ _ _ => pts_nil) (fun _ _ _ _ _ => pe_has hU hr pass0 (pa_cons (pv 7) pa_nil))))
    (pss_cons (ps_for PassesOwn.never rfl (pi_enum rfl ge (pa_cons (pv 0) pa_nil)) (pg_tup rfl (pgs_cons (pg_name (i := 2) scO.nd rfl (.inl rfl)) (pgs_cons (pg_name (i := 3) scO.nd rfl (.inl rfl)) pgs_nil)))
      (pss_one (ps_for PassesOwn.never rfl (pi_enum rfl ge (pa_cons (pv 0) pa_nil)) (pg_tup rfl (pgs_cons (pg_name (i := 4) scO.nd rfl (.inr rfl)) (pgs_cons (pg_name (i := 5) scO.nd rfl (.inl rfl)) pgs_nil)))
        (pss_cons (ps_set (i := 6) scO.nd rfl (.inl rfl) (pe_cmpR (op_eqD hu4) (pe_lc (own := [("_law_kind_here", 7)]) (g := gName 7) (tt := tB (tOp (rNotInD K) (tVar 7) (tOp (rIxL K) (tVar 1) (tVar 4)))) (te := tVar 7) rfl scO.nd (pi_list (pe_ix ix_list (pv 1) (pv 2) (fun _ _ => rfl))) (blkOk_by (N := nO) (sc := defScope (top 23)) (by decide +kernel))
            (fun _ _ _ _ _ => pg_name (i := 7) scO.nd rfl (.inl rfl)) (fun _ _ _ _ _ => pts_one (pt_cmpR (op_notInD hu) (pv 7) (pe_ix (ix_list : IxR _ (rIxL K)) (pv 1) (pv 4) (fun _ _ => rfl)) rfl)) (fun _ _ _ _ _ => pv 7)) (pe_lst pa_nil) rfl))
        (pss_one (ps_if (PW.pt (pw_or (pt_cmpR op_ne (pe_has hL hr passL (pa_cons (pv 3) (pa_cons (pv 5) pa_nil))) (pv 6) (nomark _))
            (pw_or1 (pt_cmpR op_ne (pe_cmpR (op_eqD hu4) (pe_ix ix_list (pv 1) (pv 2) (fun _ _ => rfl)) (pe_ix ix_list (pv 1) (pv 4) (fun _ _ => rfl)) (nomark _)) (pe_cmpR (op_eqD hu4) (pv 3) (pv 5) (nomark _)) (nomark _))))) (pss_one (ps_ret pe_bl)) pss_nil))))))
    (pss_one (ps_ret pe_bl)))), ?_⟩
  obtain ⟨a, xs, ks, rfl, hq, hk, h64, q⟩ := h
  refine ⟨_, rfl, a, rfl, ⟨xs, hq⟩, fun D nD => ?_⟩
  refine lc_list (K := K) (a := a) (xs := xs) (fun i H2 => Same H H2 ∧ ∃ ts, H2 D = some (.lst ts) ∧ Tops K D H2 ts (ks.take i)) ⟨same_new nD, [], upd_same, rfl, fun i k hi => by simp at hi⟩ (fun i H2 _ ⟨e, _⟩ => sql_same hq e) (fun i x H2 hx ⟨e, ts, hD, ht⟩ => ?_) fun H3 ⟨s3, ts, hD, ht⟩ => ?_
  · obtain ⟨k, hki, kx⟩ := (hk.same e).at hx
    refine ⟨rfl, x, rfl, x, k, rfl, kx, fun H4 p ys sm np hp ky => ⟨ts, sm _ _ hD, ?_, fun b o z => ?_, ts ++ [.ref p], upd_same, ?_, fun j k' hj => ?_⟩⟩
    · rw [ht.1, List.length_take]
      exact Nat.lt_of_le_of_lt (m := 64) (by omega) (by decide)
    · rw [upd_ne (ne_of_none z nD)]
      exact sm _ _ (e _ _ z)
    · simp only [take_snoc hki, List.length_append, ht.1, List.length_singleton]
    · have pD : p ≠ D := fun z => by
        rw [z, hD] at np
        cases np
      have tk : Tk H4 (upd H4 D (.lst (ts ++ [.ref p]))) := Tk.lstUpd (sm _ _ hD)
      rw [take_snoc hki] at hj
      by_cases hlt : j < (ks.take i).length
      · rw [List.getElem?_append_left hlt] at hj
        obtain ⟨p', ys', q1, q2, q3, q4⟩ := (ht.same sm).2 j k' hj
        exact ⟨p', ys', by rw [List.getElem?_append_left (by rw [ht.1]; exact hlt)]; exact q1, q2, by rw [upd_ne q2]; exact q3, q4.tk tk⟩
      · have ej : j = (ks.take i).length := by
          have z := (List.getElem?_eq_some_iff.mp hj).1
          rw [List.length_append, List.length_singleton] at z
          omega
        rw [ej, List.getElem?_append_right (Nat.le_refl _), Nat.sub_self] at hj
        obtain rfl : k = k' := Option.some.inj hj
        exact ⟨p, ys, by rw [ej, ← ht.1, List.getElem?_append_right (Nat.le_refl _), Nat.sub_self]; rfl, pD, by rw [upd_ne pD]; exact hp, ky.tk tk⟩
  have zt : ks.take xs.length = ks := by
    rw [hk.len]
    exact List.take_length
  rw [zt] at ht
  clear zt
  refine ⟨_, rfl, a, xs, rfl, sql_same hq s3, ?_⟩
  refine for_it walk_enum (fun i σ H' => Same H3 H' ∧ ∃ o2 o3 o4 o5 o6, σ = [some (.ref a), some (.ref D), o2, o3, o4, o5, o6, none]) ⟨Same.refl _, _, _, _, _, _, rfl⟩ (fun i σ H' _ ⟨e, _⟩ => sql_same (sql_same hq s3) e) (fun i v σ H' H4 hi ⟨e, o2, o3, o4, o5, o6, es⟩ hY => ?_) fun σ H' ⟨e, _⟩ => ?_
  · subst es
    obtain ⟨Tt, x, y, rfl, nT, rfl, ex, ey⟩ := hY
    obtain rfl : V.int (i : Nat) = x := Option.some.inj ex
    refine ⟨Tt, _, rfl, SqT.of upd_same, rfl, _, _, rfl, _, _, rfl, rfl, ?_⟩
    have e4 := e.trans (same_new (o := .tup [.int (i : Nat), y]) nT)
    revert e4
    refine (fun z => z : (∀ Z : Hp, Same H3 Z → _) → _) (fun H5 s5 => ?_) _
    clear e nT
    obtain ⟨k1, hk1, ky1⟩ := (hk.same (s3.trans s5)).at ey
    refine ⟨_, rfl, a, xs, rfl, sql_same hq (s3.trans s5), ?_⟩
    refine for_it walk_enum (fun j σ H' => Same H3 H' ∧ ∃ o4 o5 o6, σ = [some (.ref a), some (.ref D), some (.int (i : Nat)), some y, o4, o5, o6, none]) ⟨s5, _, _, _, rfl⟩ (fun j σ H' _ ⟨e, _⟩ => sql_same (sql_same hq s3) e) (fun j v σ H' H6 hj ⟨e, o4, o5, o6, es⟩ hY => ?_) fun σ H' ⟨e, o4, o5, o6, es⟩ => ⟨e, _, _, _, _, _, es⟩
    subst es
    obtain ⟨T2, x2, y2, rfl, nT2, rfl, ex2, ey2⟩ := hY
    obtain rfl : V.int (j : Nat) = x2 := Option.some.inj ex2
    refine ⟨T2, _, rfl, SqT.of upd_same, rfl, _, _, rfl, _, _, rfl, rfl, ?_⟩
    have e6 := e.trans (same_new (o := .tup [.int (j : Nat), y2]) nT2)
    revert e6
    refine (fun z => z : (∀ Z : Hp, Same H3 Z → _) → _) (fun H7 s7 => ?_) _
    clear e nT2
    obtain ⟨k2, hk2, ky2⟩ := (hk.same (s3.trans s7)).at ey2
    have ky17 : KindAt K H7 y k1 := by
      obtain ⟨k1', hk1', ky1'⟩ := (hk.same (s3.trans s7)).at ey
      rw [hk1] at hk1'
      rw [Option.some.inj hk1']
      exact ky1'
    obtain ⟨p1, ys1, a1, a2, a3, a4⟩ := (ht.same s7).2 i k1 hk1
    obtain ⟨p2, ys2, b1, b2, b3, b4⟩ := (ht.same s7).2 j k2 hk2
    have hD7 := s7 _ _ hD
    have ix : ∀ {n : Nat} {v : V}, ts[n]? = some v → atI ts ((n : Nat) : Int) = some v := fun {n v} h => by
      obtain ⟨h1, h2⟩ := List.getElem?_eq_some_iff.mp h
      rw [← h2]
      exact atI_nat (by simp [h1])
    refine ⟨_, rfl, _, rfl, D, ts, (i : Nat), .ref p1, rfl, rfl, SqL.of hD7, ix a1, p1, rfl, ⟨ys1, SqL.of a3⟩, fun D2 nD2 => ?_⟩
    refine lcf (K := K) (fun k => !decide (k ∈ res (some k2) none)) nD2 (SqL.of a3) a4 (by show 7 < 8; decide) (res_le _ _) (fun x k H8 Rr sm kx hR => ?_) fun H8 ys s8 hD8 ky => ?_
    · refine ⟨x, rfl, _, rfl, _, rfl, D, ts, (j : Nat), .ref p2, rfl, rfl, SqL.of (sm _ _ hD7), ix b1, kd k, (res (some k2) none).map kd, kx.dp, .lst (SqL.of (sm _ _ b3)) (b4.same sm).dp, kd_shaped k, kds_shaped _, _, rfl, ?_⟩
      rw [kds_any]
      exact hR
    refine ⟨by decide, fun p9 np9 => t_eqNil hD8 ky np9 ?_⟩
    rw [law_up k1 k2]
    have s9 : Same H7 (upd H8 p9 (.lst [])) := s8.trans (same_new np9)
    have hD9 := s9 _ _ hD7
    refine ⟨_, rfl, _, rfl, _, _, rfl, .inl ⟨k1, k2, ky17.same s9, ky2.same s9, ?_⟩⟩
    refine ⟨_, rfl, t_neBl (iteF ?_)⟩
    refine ⟨_, rfl, _, rfl, D, ts, (i : Nat), .ref p1, rfl, rfl, SqL.of hD9, ix a1, _, rfl, _, rfl, D, ts, (j : Nat), .ref p2, rfl, rfl, SqL.of hD9, ix b1, ?_⟩
    refine ⟨_, _, .lst (SqL.of (s9 _ _ a3)) (a4.same s9).dp, .lst (SqL.of (s9 _ _ b3)) (b4.same s9).dp, kds_shaped _, kds_shaped _, ?_⟩
    refine ⟨_, rfl, _, rfl, kd k1, kd k2, (ky17.same s9).dp, (ky2.same s9).dp, kd_shaped _, kd_shaped _, ?_⟩
    rw [kds_eqv, kd_eqv, law_same k1 k2]
    exact t_neBl (iteF ⟨s7.trans s9, _, _, _, rfl⟩)
  · exact q H' (s3.trans e)
theorem has_ord {fd : FuncData} (T : Tx K mg) (F : FnT K "_law_are_ordered" 23 fd) (hL : Has P w K mg base (L2.CX P w) 3 "is_as_loose" ["kind", "other"] (spLoose K)) (hU : Has P w K mg base CX0 8 "_law_ups" ["_law_kind_here"] (spUps K)) :
    Has P w K mg base CX0 9 "_law_are_ordered" ["_law_some"] (spOrd K) :=
  FunD.has T F (ok_ord T F hL hU) (by decide) fun _ _ _ _ _ _ us hl => match us, hl with | [_], _ => rfl
end
end Kd
/-! K20: law -/
namespace Kd
open PySem PySem.Spec PyProof.Rows L2 LamX
theorem Ks.drop {K : PySem.W.Frag} {H : Hp} {vs : List V} {ks : List Kn} (h : Ks K H vs ks) : ∀ n : Nat, Ks K H (vs.drop n) (ks.drop n) := by
  induction h with
  | nil => intro n; simp; exact .nil
  | cons a h ih =>
    intro n
    cases n with
    | zero => exact .cons a h
    | succ n => exact ih n
theorem Ks.cut {K : PySem.W.Frag} {H : Hp} {vs : List V} {ks : List Kn} (h : Ks K H vs ks) (lo hi : Option Int) : ∃ js, js.length ≤ ks.length ∧ Ks K H (cutV vs lo hi) js := by
  refine ⟨_, ?_, (h.drop _).take _⟩
  rw [List.length_take, List.length_drop]
  omega
theorem tabS_step {H H' : Hp} {d Pt : Addr} {q : Str} (t : TabS H Pt q) (hd : Dice H d) (s : DStep d H H') : TabS H' Pt q := by
  obtain ⟨ps, a1, a2, a3⟩ := t
  refine ⟨ps, s.at a1 (fun _ z => nomatch z) hd, a2, fun pos cv z => ?_⟩
  obtain ⟨c0, b1, b2⟩ := a3 pos cv z
  exact ⟨c0, b1, s.at b2 (fun _ z => by unfold CodeO at z; cases z) hd⟩
theorem sql_nt {K : PySem.W.Frag} {H H2 : Hp} {l : Addr} {xs : List V} (h : SqL K H l xs) (e : Nt H H2) : SqL K H2 l xs := by
  rcases h with (h | ⟨o, h⟩) | h
  · exact .inl (.inl (e _ _ h (fun _ z => nomatch z)))
  · exact .inl (.inr ⟨o, e _ _ h (fun _ z => nomatch z)⟩)
  · exact .inr h
/-- as the law goes on -/
structure Go (K : PySem.W.Frag) (Pt sl : Addr) (H0 H : Hp) (xs : List V) (ks : List Kn) : Prop where
  nt : Nt H0 H
  tab : TabS H Pt qA
  fr : H0 sl = none
  at_ : H sl = some (.lst xs)
  ks : Ks K H xs ks
section
variable {K : PySem.W.Frag} {Pt sl d : Addr} {H0 H H' : Hp} {xs : List V} {ks : List Kn}
theorem Go.same (g : Go K Pt sl H0 H xs ks) (e : Same H H') : Go K Pt sl H0 H' xs ks := ⟨g.nt.trans (.same e), tabS_same g.tab e, g.fr, e _ _ g.at_, g.ks.same e⟩
theorem Go.step {H1 : Hp} (g : Go K Pt sl H0 H xs ks) (nd : H d = none) (sm : Same H H1) (hd : Dice H1 d) (s : DStep d H1 H') : Go K Pt sl H0 H' xs ks :=
  ⟨fun b o e z => by
    have h := g.nt b o e z
    exact s.off b o (ne_of_none h nd) (sm _ _ h), tabS_step (tabS_same g.tab sm) hd s, g.fr, s.off _ _ (ne_of_none g.at_ nd) (sm _ _ g.at_), (g.ks.same sm).tk (s.tk hd)⟩
theorem Go.mv (g : Go K Pt sl H0 H xs ks) (n : Nt H H') (t : TabS H' Pt qA) : Go K Pt sl H0 H' xs ks := ⟨g.nt.trans n, t, g.fr, n _ _ g.at_ (fun _ z => nomatch z), g.ks.tk n.tk⟩
theorem Go.app {v : V} {k : Kn} (g : Go K Pt sl H0 H xs ks) (kv : KindAt K H v k) : Go K Pt sl H0 (upd H sl (.lst (xs ++ [v]))) (xs ++ [v]) (ks ++ [k]) := by
  have tk : Tk H (upd H sl (.lst (xs ++ [v]))) := Tk.lstUpd g.at_
  exact ⟨fun b o e z => by rw [upd_ne (ne_of_none e g.fr)]; exact g.nt b o e z, tabS_at g.tab g.at_, g.fr, upd_same, (g.ks.tk tk).append (.cons (kv.tk tk) .nil)⟩
end
abbrev nL : List Str := ["_law_script", "_law_some", "_law_spot", "_law_dice_here", "_law_one", "_law_two"]
theorem scLaw : FnScope nL ["_law_script"] (defScope (top 24)) := ⟨rfl, rfl, rfl, by decide +kernel, rfl, by decide +kernel, by decide +kernel⟩
def spLaw (K : PySem.W.Frag) (Pt : Addr) : Sp := fun vs H Q _ => ∃ (a : Addr) (ns : List Int), vs = [.ref a] ∧ SqL K H a (ns.map V.int) ∧ ns.length ≤ 63 ∧ TabS H Pt qA ∧ ∀ H', Q (.bl true) H'
section
variable {P : Program} {w : World} {K : PySem.W.Frag} {mg : Str → Option Value} {base : Heap} {Pt : Addr}
theorem ok_law {fd : FuncData} (T : Tx K mg) (F : FnT K "law" 24 fd) (h1 : Has P w K mg base CX0 1 "_law_dice" ["_law_script", "_law_spot"] (spDice K)) (h2 : Has P w K mg base CX0 3 "_law_kind" ["_law_dice_here"] (spKind K))
    (h3 : Has P w K mg base CX0 11 "_law_right" ["_law_one", "_law_two", "_law_wrong"] (spRight K Pt)) (h4 : Has P w K mg base CX0 2 "_law_pick" ["_law_dice_here", "_law_items"] (spPick K)) (h5 : Has P w K mg base CX0 4 "_law_no_kind" ["_law_dice_here"] spNo)
    (h6 : Has P w K mg base CX0 9 "_law_are_ordered" ["_law_some"] (spOrd K)) : FnOk P w K mg base CX0 12 (He.ga K "law") fd ["_law_script"] (spLaw K Pt) := by
  have gr : mg "range" = none := T.fre _ (by decide)
  have gm : mg "max" = none := T.fre _ (by decide)
  have gn : mg "min" = none := T.fre _ (by decide)
  have gl : mg "len" = none := T.fre _ (by decide)
  refine F.ok scLaw (fun vs H Q E h => ?_) (fun cdv A outer s H vs Q E hr h => ?_)
  · obtain ⟨a, ns, rfl, _⟩ := h
    rfl
  refine ⟨_, PSs.nox (
    pss_cons (ps_set (i := 1) scLaw.nd rfl (.inl rfl) (pe_lst pa_nil))
    (pss_cons (ps_for PassesOwn.never rfl (pi_range1 rfl gr (pa_cons (pe_callB (call_max2 rfl) rfl gm boot_max (pa_cons pe_int (pa_cons (pe_callB (call_min2 rfl) rfl gn boot_min (pa_cons pe_int (pa_cons (pe_callB call_len_seq rfl gl boot_len (pa_cons (pv 0) pa_nil)) pa_nil))) pa_nil))) pa_nil)) (pg_name (i := 2) scLaw.nd rfl (.inl rfl))
      (pss_cons (ps_set (i := 3) scLaw.nd rfl (.inl rfl) (pe_has h1 hr pass0 (pa_cons (pv 0) (pa_cons (pv 2) pa_nil))))
      (pss_cons (ps_par (i := 4) (j := 5) rfl scLaw.nd rfl rfl (by decide) rfl rfl (pa_cons (pe_has h2 hr pass0 (pa_cons (pv 3) pa_nil)) (pa_cons (pe_has h2 hr pass0 (pa_cons (pv 3) pa_nil)) pa_nil)) rfl)
      (pss_cons (ps_if (pt_not (pt_val (pe_has h3 hr pass0 (pa_cons (pv 4) (pa_cons (pe_has h4 hr pass0 (pa_cons (pv 3) (pa_cons (pe_lst (pa_cons (pv 5) (pa_cons (pv 4) pa_nil))) pa_nil))) (pa_cons (pe_has h5 hr pass0 (pa_cons (pv 3) pa_nil)) pa_nil)))))) (pss_one (ps_ret pe_bl)) pss_nil)
      (pss_one (ps_expr (pe_bm PySem.F.plainAttrs_list PySem.F.slot_list_append PySem.F.type_list_append mt_append (pv 1) (pa_cons (pv 5) pa_nil))))))))
    (pss_one (ps_ret (pe_has h6 hr pass0 (pa_cons (pe_slice sl_list (pv 1) po_none (po_some pe_int)) pa_nil)))))), ?_⟩
  obtain ⟨a, ns, rfl, hq, h63, tb, q⟩ := h
  refine ⟨by decide, fun sl nsl => ?_⟩
  have s1 := same_new (o := .lst []) nsl
  have g0 : Go K Pt sl H (upd H sl (.lst [])) [] [] := ⟨.same s1, tabS_same tb s1, nsl, upd_same, .nil⟩
  refine ⟨_, rfl, a, _, rfl, .inl (sql_same hq s1), _, _, rfl, _, _, rfl, _, rfl, ?_, ?_, ?_⟩
  · split <;> split <;> omega
  · rw [List.length_map]
    split <;> split <;> omega
  refine for_range (fun i σ H' => ∃ xs ks, Go K Pt sl H H' xs ks ∧ ks.length = i ∧ ∃ o2 o3 o4 o5, σ = [some (.ref a), some (.ref sl), o2, o3, o4, o5]) ⟨[], [], g0, rfl, _, _, _, _, rfl⟩ (fun i σ Hc hi ⟨xs, ks, g, hl, o2, o3, o4, o5, es⟩ => ?_) fun σ Hc ⟨xs, ks, g, hl, o2, o3, o4, o5, es⟩ => ?_
  · have i63 : i < 64 := by
      rw [List.length_map] at hi
      split at hi <;> split at hi <;> omega
    subst es
    refine ⟨_, rfl, _, rfl, a, ns, i, by simp, sql_nt hq g.nt, fun d H1 sm nd hd1 => ?_⟩
    refine ⟨_, rfl, d, rfl, hd1, fun v1 k1 H2 kv1 st2 => ⟨_, rfl, d, rfl, st2.dice, fun v2 k2 H3 kv2 st3 => ⟨v1, v2, rfl, ?_⟩⟩⟩
    have st23 := st2.trans st3
    have kv13 : KindAt K H3 v1 k1 := kv1.tk (st3.tk st2.dice)
    refine ⟨_, rfl, _, rfl, _, rfl, _, rfl, by show 2 ≤ sizeLine; decide, fun pl npl => ?_⟩
    have sp := same_new (o := .lst [v2, v1]) npl
    have stp : DStep d H1 (upd H3 pl (.lst [v2, v1])) := st23.new npl
    have npd : pl ≠ d := fun z => by
      obtain ⟨x, y, z2, e⟩ := st3.dice
      rw [← z, npl] at e
      cases e
    refine ⟨d, pl, [v2, v1], rfl, stp.dice, npd, SqL.of upd_same, by show 1 ≤ 2; decide, by show 2 ≤ 64; decide, fun x H4 hx st4 => ?_⟩
    have kx : ∃ kx, KindAt K H4 x kx := by
      rcases List.mem_cons.mp hx with e | e
      · rw [e]
        exact ⟨k2, (kv2.same sp).tk (st4.tk stp.dice)⟩
      · rw [show x = v1 from by simpa using e]
        exact ⟨k1, (kv13.same sp).tk (st4.tk stp.dice)⟩
    obtain ⟨kx, hkx⟩ := kx
    refine ⟨_, rfl, d, rfl, st4.dice, fun x5 H5 nk5 st5 => ?_⟩
    have stA : DStep d H1 H5 := (stp.trans st4).trans st5
    have g5 := g.step nd sm hd1 stA
    have tk35 : Tk H3 H5 := (Tk.same sp).trans ((st4.tk stp.dice).trans (st5.tk st4.dice))
    refine ⟨v1, x, x5, k1, kx, rfl, kv13.tk tk35, hkx.tk (st5.tk st4.dice), nk5, g5.tab, fun H6 n6 t6 => ⟨true, rfl, iteF ?_⟩⟩
    have g6 := g5.mv n6 t6
    refine ⟨_, rfl, .inl ⟨rfl, _, SqL.of g6.at_⟩, _, rfl, sl, xs, v2, rfl, rfl, g6.at_, ?_, xs ++ [v2], ks ++ [k2], g6.app ((kv2.tk tk35).tk n6.tk), ?_, _, _, _, _, rfl⟩
    · rw [g6.ks.len, hl]
      exact Nat.lt_trans i63 (by decide)
    · rw [List.length_append, hl]
      rfl
  · subst es
    refine ⟨_, rfl, 12, rfl, sl, xs, rfl, SqL.of g.at_, fun p np => ?_⟩
    obtain ⟨js, hj, kj⟩ := g.ks.cut none (some 12)
    have sp := same_new (o := .lst (cutV xs none (some 12))) np
    refine ⟨p, _, js, rfl, SqL.of upd_same, kj.same sp, ?_, fun H' _ => q H'⟩
    rw [List.length_map] at hl
    have z : ks.length ≤ 64 := by
      rw [hl]
      split <;> split <;> omega
    omega
end
end Kd
/-! K21: the module's facts, all defs together -/
namespace Kd
open PySem PySem.Spec PyProof.Rows L2 LamX
section
variable {P : Program} {w : World} {K : PySem.W.Frag} {mg : Str → Option Value} {h base : Heap}
theorem tx_of (X : K.In h) (G : h.Ns mainGlobals mg) (c : He.SaysX fa fn [] tf ex w h K) : Tx K mg := by
  have fact := fun {f : He.Fa} (hf : f ∈ fa) => c.t.d.facts hf
  obtain ⟨m1, q1⟩ := He.ba c.more
  obtain ⟨m2, q2⟩ := He.ba q1
  obtain ⟨m3, q3⟩ := He.ba q2
  obtain ⟨m4, q4⟩ := He.ba q3
  obtain ⟨m5, q5⟩ := He.ba q4
  obtain ⟨m6, m7⟩ := He.ba q5
  obtain ⟨e1, e2, e3, e4⟩ := He.exc_ok (x := "InvalidKind") (fact (by simp [fa]))
  exact ⟨fun x hx => He.glo_ok X G (fact (by simp only [fa, List.mem_append, List.mem_map]; exact .inl (.inl ⟨x, hx, rfl⟩))), fun x hx => He.free_ok X G (fact (by simp only [fa, List.mem_append, List.mem_map]; exact .inl (.inr ⟨x, hx, rfl⟩))),
    ⟨fun H => He.tupB_ok m1 H, tupN_ok m5⟩, ⟨fun H => He.tupB_ok m2 H, tupN_ok m6⟩, ⟨fun H => He.tupB_ok m3 H, tupN_ok m7⟩, e1, e2, e3, e4, He.exm_ok (x := "InvalidKind") (y := "InvalidKind") (b := true) (fact (by simp [fa])), of_decide_eq_true m4⟩
theorem def_of (c : He.SaysX fa fn [] tf ex w h K) {x : Str} {i : Nat} (hx : mkD x i ∈ fn) : ∃ fd, FnT K x i fd := c.t.d.defs hx
theorem gen_of (c : He.SaysX fa fn [] tf ex w h K) : ∃ fd, FnG K fd := c.t.d.defs (d := mkD "kinds" 10 [("least", .non), ("most", .non)]) (by simp [fn])
theorem law_ok (T : Tx K mg) (c : He.SaysX fa fn [] tf ex w h K) (TB : TabB base mg (He.cT K ("_law_are_refused", none)).1 (He.cT K ("_law_are_refused", none)).2) {fd : FuncData} (F : FnT K "law" 24 fd) :
    FnOk P w K mg base CX0 12 (He.ga K "law") fd ["_law_script"] (spLaw K (He.cT K ("_law_are_refused", none)).2) := by
  obtain ⟨f7, F7⟩ := def_of c (x := "is_kind") (i := 7) (by simp [fn])
  obtain ⟨f8, F8⟩ := def_of c (x := "require_kind") (i := 8) (by simp [fn])
  obtain ⟨f9, F9⟩ := def_of c (x := "is_as_loose") (i := 9) (by simp [fn])
  obtain ⟨f10, F10⟩ := gen_of c
  obtain ⟨f12, F12⟩ := def_of c (x := "_law_dice") (i := 12) (by simp [fn])
  obtain ⟨f13, F13⟩ := def_of c (x := "_law_roll") (i := 13) (by simp [fn])
  obtain ⟨f14, F14⟩ := def_of c (x := "_law_pick") (i := 14) (by simp [fn])
  obtain ⟨f15, F15⟩ := def_of c (x := "_law_odd") (i := 15) (by simp [fn])
  obtain ⟨f16, F16⟩ := def_of c (x := "_law_words") (i := 16) (by simp [fn])
  obtain ⟨f17, F17⟩ := def_of c (x := "_law_kind") (i := 17) (by simp [fn])
  obtain ⟨f18, F18⟩ := def_of c (x := "_law_no_kind") (i := 18) (by simp [fn])
  obtain ⟨f19, F19⟩ := def_of c (x := "_law_is_refused") (i := 19) (by simp [fn])
  obtain ⟨f20, F20⟩ := def_of c (x := "_law_ups") (i := 20) (by simp [fn])
  obtain ⟨f21, F21⟩ := def_of c (x := "_law_are_refused") (i := 21) (by simp [fn])
  obtain ⟨f22, F22⟩ := def_of c (x := "_law_right") (i := 22) (by simp [fn])
  obtain ⟨f23, F23⟩ := def_of c (x := "_law_are_ordered") (i := 23) (by simp [fn])
  have k7 : Has P w K mg base CX0 1 "is_kind" ["value"] (spIsKind K) := has_isKind T F7
  have k8 := has_req T F8 k7
  have k9 := has_loose T F9 k8
  have G : HasG P w K mg base := ⟨f10, jok_kinds T F10 k8 k9, F10.kp, T.glo _ (by decide), F10⟩
  have d1 : Has P w K mg base CX0 1 "_law_dice" ["_law_script", "_law_spot"] (spDice K) := has_dice T F12
  have d2 : Has P w K mg base CX0 1 "_law_roll" ["_law_dice_here", "_law_count"] spRoll := has_roll T F13
  have d3 := has_pick T F14 d2
  have d4 := has_odd T F15 d3
  have d5 : Has P w K mg base CX0 1 "_law_words" [] spWords := has_words T F16
  have d6 := has_kind T F17 d3 d5
  have d7 := has_no T F18 d6 d3 d4
  have u1 := has_ups T F20 G
  have a1 := has_are T F21 F19 k9 G TB
  have r1 := has_right T F22 k9 G u1 a1
  have o1 := has_ord T F23 k9 u1
  exact ok_law T F d1 d6 r1 d3 d7 o1
end
end Kd
/-! K22: the end -/
namespace Kd
open PySem PySem.Spec PyProof.Rows L2 LamX
theorem law_at {w : World} {K : PySem.W.Frag} {mg : Str → Option Value} {h : Heap} {fa1 : Addr} (X : K.In h) (G : h.Ns mainGlobals mg) (c : He.SaysX fa fn [] tf ex w h K) (hm : mg ("law" : Str) = some (.ref fa1)) :
    LawAtS PySem.Challenge.rw_lentdoors_k05_whole_kinds_in_order w K CX0 12 63 "_law_script" mg fa1 h := by
  have T := tx_of X G c
  obtain ⟨fd, F⟩ := def_of c (x := "law") (i := 24) (by simp [fn])
  have e := hm.symm.trans (T.glo "law" (by decide))
  cases e
  have b := FunD.bindsA (ps := ["_law_script"]) F fun _ _ _ _ _ _ us hl => match us, hl with | [_], _ => rfl
  have m1 : (("_law_are_refused", none) : He.Defn) ∈ tf := by simp [tf]
  refine ⟨fd, [He.cT K ("_law_are_refused", none)], spLaw K (He.cT K ("_law_are_refused", none)).2, fun p hp => ?_, fun p hp => ?_, fun p hp => ?_, fun s u => b s [u] rfl, fun H a ns hl _ hT hS => ?_, fun base hK hN hT => ?_⟩
  · rw [show p = _ from by simpa using hp]
    exact c.empty _ m1
  · rw [show p = _ from by simpa using hp]
    exact c.out _ m1
  · rw [show p = _ from by simpa using hp]
    exact PySem.W.codeHd_of_K X (c.hd _ m1)
  · exact ⟨a, ns, rfl, hS, hl, .nil (hT _ (by simp)), fun _ => rfl⟩
  · exact law_ok T c (hT _ (by simp)) F
end Kd
open PySem PySem.W PySem.Calls PyProof.Rows
theorem PySem.Challenge.cw_lentdoors_k05_whole_kinds_in_order_holds : PySem.Challenge.rw_lentdoors_k05_whole_kinds_in_order.Holds := by
  w_on; o_law
  refine HandSHeadRun.head_any (r := OpenLaw.row PySem.Challenge.rw_lentdoors_k05_whole_kinds_in_order) (q := view (OpenLaw.row PySem.Challenge.rw_lentdoors_k05_whole_kinds_in_order).prog [24]) (H := Kd.hk) (ob := Kd.ob) (M := 1200) (loose := ["DoorError", "InvalidKind", "LENDINGS", "LETTINGS", "TURNINGS", "is_kind", "require_kind", "is_as_loose", "kinds", "_law_dice", "_law_roll", "_law_pick", "_law_odd", "_law_words", "_law_kind", "_law_no_kind", "_law_is_refused", "_law_ups", "_law_are_refused", "_law_right", "_law_are_ordered"])
    (d := HandSHeadRun.topDef (OpenLaw.row PySem.Challenge.rw_lentdoors_k05_whole_kinds_in_order).prog 24) (kwd := []) Kd.ob_eq
    (by kernel_rfl) (fun s => by kernel_rfl) Kd.run (by kernel_rfl) (by kernel_rfl) (by kernel_rfl) (by rfl) (by first | assumption | decide +kernel) (by decide +kernel) ⟨rfl, rfl, rfl, rfl, rfl, by decide +kernel⟩ ?hw ?hc
  case hw => w_witness2
  case hc =>
    refine LamX.walk_ofTsE (l := PySem.Challenge.rw_lentdoors_k05_whole_kinds_in_order) (n := 63) (k := 12) (x := "_law_script") (CX := fun _ => L2.CX0) rfl (by decide) (by kernel_rfl) ⟨rfl, by decide, by decide⟩ ?F (fun _ _ _ _ _ z => z)
    intro w mg fa h Y G hmg0
    obtain ⟨K, KX, c⟩ := Y
    have hmg : mg ("law" : PySem.Str) = some (.ref fa) := by
      have e : (HandSHeadRun.topDef (OpenLaw.row PySem.Challenge.rw_lentdoors_k05_whole_kinds_in_order).prog 24).name = ("law" : PySem.Str) := by kernel_rfl
      rw [← e]
      exact hmg0
    exact ⟨K, KX, Kd.law_at KX G c hmg⟩
