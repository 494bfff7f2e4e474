import PyProof.Rows.All
import Wide.All
import OpenK.AllK
import Wide.FinOn
import KE.SortData
import KE.DataMinMax
import HandS.ForMost
import HandS.AnyAll
import HandS.EndTab
import HandS.IsInst
import HandS.TupAny
import HandS.Style
import HandS.Flow
import HandS.Walk
import HandS.DictComp
import HandS.GenList
import HandS.Set
import HandS.SetFor
import HandS.Conv
import HandS.More
import HandS.SortInts
import PyProof.EqLayable
import HandS.Words
import HandS.HeadHook4
import HandS.HeadWalk
import HandS.Head2
import PySem.Challenge.RW_calmfabric_k68_whole_lengths_of_worms
set_option Elab.async false
set_option linter.all false
set_option maxRecDepth 100000
/-! K68, text A1: heaps that grow, data that stand in them, largest readings. -/
namespace K68
open PySem PySem.Spec L2
open PyProof.Rows hiding St

/-! ### heaps that grow: all but the tables of code objects stays, a table stays one -/
def NT (o : HO) : Prop := ∀ ps, o ≠ .tbl ps
theorem nt_lst (xs : List V) : NT (.lst xs) := fun ps h => by cases h
theorem nt_tup (xs : List V) : NT (.tup xs) := fun ps h => by cases h
theorem nt_dK (xs : List (Key × V)) : NT (.dK xs) := fun ps h => by cases h
theorem nt_frz (o : Obj) (u : HO) : NT (.frz o u) := fun ps h => by cases h
/-- tuples stay -/
def Tm (H H' : Hp) : Prop := ∀ a xs, H a = some (.tup xs) → H' a = some (.tup xs)
theorem Tm.refl (H : Hp) : Tm H H := fun _ _ h => h
theorem Tm.trans {H H1 H2 : Hp} (a : Tm H H1) (b : Tm H1 H2) : Tm H H2 := fun c xs h => b c xs (a c xs h)
theorem Tm.mut {H H' : Hp} {p : Addr} {o : HO} (e : Tm H H') (h : ∀ xs, H' p ≠ some (.tup xs)) : Tm H (upd H' p o) := fun a xs ha => by
  have h2 := e a xs ha
  rw [upd_ne (fun z => h xs (by rw [← z]; exact h2))]
  exact h2
theorem Tm.lst {H : Hp} {p : Addr} {xs : List V} {o : HO} (h : H p = some (.lst xs)) : Tm H (upd H p o) := (Tm.refl H).mut fun ys z => by rw [h] at z; cases z
theorem Tm.dK {H : Hp} {p : Addr} {xs : List (Key × V)} {o : HO} (h : H p = some (.dK xs)) : Tm H (upd H p o) := (Tm.refl H).mut fun ys z => by rw [h] at z; cases z
/-- a mode: what may change, what is kept true of it -/
structure Md where
  m : Addr → Prop
  i : Hp → Prop
  dom : ∀ H a, i H → m a → ∃ o, H a = some o ∧ NT o ∧ ∀ xs, o ≠ .tup xs
  loc : ∀ H H', (∀ a, m a → H' a = H a) → i H → i H'
/-- nothing changes -/
def M0 : Md := ⟨fun _ => False, fun _ => True, fun _ _ _ h => h.elim, fun _ _ _ _ => trivial⟩
structure Xt (M : Md) (H H' : Hp) : Prop where
  keep : ∀ b o, H b = some o → NT o → ¬ M.m b → H' b = some o
  tm : Tm H H'
  tab : ∀ P, GxR.TabG H P → GxR.TabG H' P
  free : ∀ p, H' p = none → H p = none
  inv : M.i H → M.i H'
theorem Md.new {M : Md} {H : Hp} {p : Addr} (hi : M.i H) (h : H p = none) : ¬ M.m p := fun z => by
  obtain ⟨o, e, _⟩ := M.dom H p hi z
  rw [h] at e
  cases e
section
variable {M : Md}
theorem Xt.refl (H : Hp) : Xt M H H := ⟨fun _ _ e _ _ => e, Tm.refl H, fun _ t => t, fun _ h => h, fun h => h⟩
theorem Xt.trans {H H1 H2 : Hp} (a : Xt M H H1) (b : Xt M H1 H2) : Xt M H H2 := ⟨fun c o e n h => b.keep c o (a.keep c o e n h) n h, a.tm.trans b.tm, fun P t => b.tab P (a.tab P t), fun p h => a.free p (b.free p h), fun h => b.inv (a.inv h)⟩
theorem upd_none {H : Hp} {p b : Addr} {o : HO} (h : upd H p o b = none) : b ≠ p ∧ H b = none := by
  by_cases e : b = p
  · subst e
    rw [upd_same] at h
    cases h
  · rw [upd_ne e] at h
    exact ⟨e, h⟩
theorem tabG_ne {H : Hp} {P p : Addr} (t : GxR.TabG H P) (h : H p = none) : P ≠ p := by
  obtain ⟨ps, e, _⟩ := t
  exact ne_of_none e h
theorem tabG_upd {H : Hp} {P p : Addr} {o : HO} (t : GxR.TabG H P) (h : P ≠ p) : GxR.TabG (upd H p o) P := by
  obtain ⟨ps, e, q⟩ := t
  exact ⟨ps, by rw [upd_ne h]; exact e, q⟩
theorem Xt.new {H : Hp} {p : Addr} {o : HO} (h : H p = none) : Xt M H (upd H p o) :=
  ⟨fun a u e _ _ => by rw [upd_ne (ne_of_none e h)]; exact e, fun a xs e => by rw [upd_ne (ne_of_none e h)]; exact e, fun P t => tabG_upd t (tabG_ne t h), fun q z => (upd_none z).2,
    fun hi => M.loc H _ (fun a ha => upd_ne fun e => M.new hi h (e ▸ ha)) hi⟩
/-- an object that H does not know may change -/
theorem Xt.mut {H H' : Hp} {p : Addr} {o : HO} (e : Xt M H H') (h : H p = none) : Xt M H (upd H' p o) :=
  ⟨fun a u ha n hm => by rw [upd_ne (ne_of_none ha h)]; exact e.keep a u ha n hm, fun a xs ha => by rw [upd_ne (ne_of_none ha h)]; exact e.tm a xs ha, fun P t => tabG_upd (e.tab P t) (tabG_ne t h), fun q z => e.free q (upd_none z).2,
    fun hi => M.loc H' _ (fun a ha => upd_ne fun z => M.new hi h (z ▸ ha)) (e.inv hi)⟩
theorem Xt.tabbed {P : Addr} {H H' : Hp} (hP : GxR.TabG H P) (t : GxR.Tabbed P H H') : Xt M H H' := by
  obtain ⟨t1, t2⟩ := t
  obtain ⟨ps, e', _⟩ := hP
  refine ⟨fun b o e n _ => ?_, fun b xs e => ?_, fun P' t' => ?_, fun b e => ?_, fun hi => M.loc H H' (fun a ha => t2 a fun z => ?_) hi⟩
  · by_cases hb : b = P
    · subst hb
      rw [e] at e'
      exact absurd (Option.some.inj e') (n ps)
    · rw [t2 b hb]; exact e
  · by_cases hb : b = P
    · subst hb
      rw [e] at e'
      cases e'
    · rw [t2 b hb]; exact e
  · by_cases hb : P' = P
    · subst hb; exact t1
    · obtain ⟨ps, a, b⟩ := t'
      exact ⟨ps, by rw [t2 P' hb]; exact a, b⟩
  · by_cases hb : b = P
    · subst hb
      obtain ⟨ps, a, _⟩ := t1
      rw [e] at a
      cases a
    · rw [← t2 b hb]; exact e
  · subst z
    obtain ⟨o, e, n, _⟩ := M.dom H a hi ha
    rw [e'] at e
    exact n ps (Option.some.inj e).symm
theorem Xt.lift {H H' : Hp} (x : Xt M0 H H') : Xt M H H' := ⟨fun b o e n _ => x.keep b o e n id, x.tm, x.tab, x.free, fun hi => M.loc H H' (fun a ha => by
  obtain ⟨o, e, n, _⟩ := M.dom H a hi ha
  rw [e]
  exact x.keep a o e n id) hi⟩
end

/-! ### data: numbers, truth values, None, texts, tuples of these -/
mutual
inductive Rp (H : Hp) : V → PyData → Prop
  | non : Rp H .non .none
  | bl (b : Bool) : Rp H (.bl b) (.bool b)
  | int (i : Int) : Rp H (.int i) (.int i)
  | str (x : Str) : Rp H (.str x) (.str x)
  | tup {a : Addr} {xs : List V} {ds : List PyData} : H a = some (.tup xs) → RpL H xs ds → Rp H (.ref a) (.tuple ds)
inductive RpL (H : Hp) : List V → List PyData → Prop
  | nil : RpL H [] []
  | cons {v : V} {vs : List V} {d : PyData} {ds : List PyData} : Rp H v d → RpL H vs ds → RpL H (v :: vs) (d :: ds)
end
mutual
theorem Rp.tm {H H' : Hp} (e : Tm H H') : ∀ (d : PyData) {v : V}, Rp H v d → Rp H' v d
  | .none, _, h => by cases h; exact .non
  | .bool b, _, h => by cases h; exact .bl b
  | .int i, _, h => by cases h; exact .int i
  | .str x, _, h => by cases h; exact .str x
  | .tuple ds, _, h => by
    cases h with
    | tup a b => exact .tup (e _ _ a) (RpL.tm e ds b)
  | .list ds, _, h => by cases h
  | .dict ds, _, h => by cases h
theorem RpL.tm {H H' : Hp} (e : Tm H H') : ∀ (ds : List PyData) {vs : List V}, RpL H vs ds → RpL H' vs ds
  | [], _, h => by cases h; exact .nil
  | d :: ds, _, h => by
    cases h with
    | cons a b => exact .cons (Rp.tm e d a) (RpL.tm e ds b)
end
mutual
theorem Rp.dp {K : PySem.W.Frag} {H : Hp} : ∀ (d : PyData) {v : V}, Rp H v d → Dp K H v d
  | .none, _, h => by cases h; exact .non
  | .bool b, _, h => by cases h; exact .bl b
  | .int i, _, h => by cases h; exact .int i
  | .str x, _, h => by cases h; exact .str x
  | .tuple ds, _, h => by
    cases h with
    | tup a b => exact .tup (SqT.of a) (RpL.dp ds b)
  | .list ds, _, h => by cases h
  | .dict ds, _, h => by cases h
theorem RpL.dp {K : PySem.W.Frag} {H : Hp} : ∀ (ds : List PyData) {vs : List V}, RpL H vs ds → DpAll K H vs ds
  | [], _, h => by cases h; exact .nil
  | d :: ds, _, h => by
    cases h with
    | cons a b => exact .cons (Rp.dp d a) (RpL.dp ds b)
end
theorem RpL.length {H : Hp} : ∀ {vs : List V} {ds : List PyData}, RpL H vs ds → vs.length = ds.length
  | [], [], _ => rfl
  | _ :: vs, _ :: ds, h => by
    cases h with
    | cons a b => rw [List.length_cons, List.length_cons, RpL.length b]
  | [], _ :: _, h => by cases h
  | _ :: _, [], h => by cases h
theorem RpL.get {H : Hp} : ∀ {vs : List V} {ds : List PyData} {i : Nat} {d : PyData}, RpL H vs ds → ds[i]? = some d → ∃ v, vs[i]? = some v ∧ Rp H v d
  | _ :: vs, _ :: ds, 0, d, h, e => by
    cases h with
    | cons a b =>
      simp only [List.getElem?_cons_zero, Option.some.injEq] at e
      subst e
      exact ⟨_, rfl, a⟩
  | _ :: vs, _ :: ds, i + 1, d, h, e => by
    cases h with
    | cons a b =>
      simp only [List.getElem?_cons_succ] at e ⊢
      exact RpL.get b e
  | [], [], _, _, _, e => by simp at e
  | [], _ :: _, _, _, h, _ => by cases h
  | _ :: _, [], _, _, h, _ => by cases h
theorem RpL.at {H : Hp} : ∀ {vs : List V} {ds : List PyData} {i : Nat} {v : V}, RpL H vs ds → vs[i]? = some v → ∃ d, ds[i]? = some d ∧ Rp H v d
  | _ :: vs, _ :: ds, 0, v, h, e => by
    cases h with
    | cons a b =>
      simp only [List.getElem?_cons_zero, Option.some.injEq] at e
      subst e
      exact ⟨_, rfl, a⟩
  | _ :: vs, _ :: ds, i + 1, v, h, e => by
    cases h with
    | cons a b =>
      simp only [List.getElem?_cons_succ] at e ⊢
      exact RpL.at b e
  | [], [], _, _, _, e => by simp at e
  | [], _ :: _, _, _, h, _ => by cases h
  | _ :: _, [], _, _, h, _ => by cases h
theorem RpL.app {H : Hp} : ∀ {vs ws : List V} {ds es : List PyData}, RpL H vs ds → RpL H ws es → RpL H (vs ++ ws) (ds ++ es)
  | [], _, [], _, _, h2 => h2
  | _ :: vs, _, _ :: ds, _, h, h2 => by
    cases h with
    | cons a b => exact .cons a (RpL.app b h2)
  | [], _, _ :: _, _, h, _ => by cases h
  | _ :: _, _, [], _, h, _ => by cases h
theorem RpL.take {H : Hp} : ∀ {vs : List V} {ds : List PyData} (n : Nat), RpL H vs ds → RpL H (vs.take n) (ds.take n)
  | _, _, 0, _ => by simp; exact .nil
  | [], [], n + 1, _ => by simp; exact .nil
  | _ :: vs, _ :: ds, n + 1, h => by
    cases h with
    | cons a b => exact .cons a (RpL.take n b)
  | [], _ :: _, _ + 1, h => by cases h
  | _ :: _, [], _ + 1, h => by cases h
theorem RpL.drop {H : Hp} : ∀ {vs : List V} {ds : List PyData} (n : Nat), RpL H vs ds → RpL H (vs.drop n) (ds.drop n)
  | _, _, 0, h => by simpa using h
  | [], [], n + 1, _ => by simp; exact .nil
  | _ :: vs, _ :: ds, n + 1, h => by
    cases h with
    | cons a b => exact RpL.drop n b
  | [], _ :: _, _ + 1, h => by cases h
  | _ :: _, [], _ + 1, h => by cases h
theorem RpL.ints {H : Hp} : ∀ {vs : List V} {ns : List Int}, RpL H vs (ns.map .int) → vs = ns.map V.int
  | vs, [], h => by
    rw [List.map_nil] at h
    cases h
    rfl
  | vs, n :: ns, h => by
    rw [List.map_cons] at h
    cases h with
    | cons a b =>
      cases a
      rw [List.map_cons, ← RpL.ints b]
theorem RpL.of_ints {H : Hp} : ∀ (ns : List Int), RpL H (ns.map V.int) (ns.map .int)
  | [] => .nil
  | n :: ns => .cons (.int n) (RpL.of_ints ns)
theorem RpL.dropLast {H : Hp} {vs : List V} {ds : List PyData} (h : RpL H vs ds) : RpL H vs.dropLast ds.dropLast := by
  rw [List.dropLast_eq_take, List.dropLast_eq_take, h.length]
  exact h.take _

/-! ### what is known of a value, and stays known -/
abbrev Kn := Hp → V → Prop
class Mn (M : Md) (K : Kn) : Prop where
  mono : ∀ {H H' : Hp} {v : V}, Xt M H H' → K H v → K H' v
/-- it stands for this datum | it is this value | a list of such data | a dict | a dict of whole-number keys -/
def kD (d : PyData) : Kn := fun H v => Rp H v d
def kE (u : V) : Kn := fun _ v => v = u
def kL (M : Md) (ds : List PyData) : Kn := fun H v => ∃ p xs, v = .ref p ∧ H p = some (.lst xs) ∧ RpL H xs ds ∧ ¬ M.m p
def kK (M : Md) (kvs : List (Key × V)) : Kn := fun H v => ∃ p, v = .ref p ∧ Rd H p (.dK kvs) ∧ ¬ M.m p
abbrev kI (i : Int) : Kn := kD (.int i)
abbrev kB (b : Bool) : Kn := kD (.bool b)
section
variable {M : Md}
instance (d : PyData) : Mn M (kD d) := ⟨fun e h => Rp.tm e.tm d h⟩
instance (u : V) : Mn M (kE u) := ⟨fun _ h => h⟩
instance (ds : List PyData) : Mn M (kL M ds) := ⟨fun e h => by
  obtain ⟨p, xs, a, b, c, d⟩ := h
  exact ⟨p, xs, a, e.keep _ _ b (nt_lst xs) d, RpL.tm e.tm ds c, d⟩⟩
instance (kvs : List (Key × V)) : Mn M (kK M kvs) := ⟨fun e h => by
  obtain ⟨p, a, b, d⟩ := h
  refine ⟨p, a, ?_, d⟩
  rcases b with b | ⟨o, b⟩
  · exact .inl (e.keep _ _ b (nt_dK _) d)
  · exact .inr ⟨o, e.keep _ _ b (nt_frz _ _) d⟩⟩
end
theorem kI_eq {H : Hp} {v : V} {i : Int} (h : kI i H v) : v = .int i := by
  have h : Rp H v (.int i) := h
  cases h
  rfl
theorem kB_eq {H : Hp} {v : V} {b : Bool} (h : kB b H v) : v = .bl b := by
  have h : Rp H v (.bool b) := h
  cases h
  rfl
theorem kI_of {H : Hp} {i : Int} : kI i H (.int i) := Rp.int i
theorem kB_of {H : Hp} {b : Bool} : kB b H (.bl b) := Rp.bl b
def KAll : List Kn → Hp → List V → Prop
  | [], _, vs => vs = []
  | K :: Ks, H, vs => ∃ v r, vs = v :: r ∧ K H v ∧ KAll Ks H r

/-! ### the largest readings -/
def WE (X : Cx) (e : Expr) : TE := fun σ H Q => ∀ pins s, Inv X pins σ H s → wpAny (model X.prog X.w) X.A (eval e X.env) (EP X pins σ Q) X.xe s
def WT (X : Cx) (e : Expr) : TT := fun σ H Q => ∀ pins s, Inv X pins σ H s → wpAny (model X.prog X.w) X.A (isTrue e X.env (eval e X.env)) (TP X pins σ Q) X.xe s
def WA (X : Cx) (es : List Expr) : TA := fun σ H Q => ∀ (pos : Pos) pins s, Inv X pins σ H s → wpAny (model X.prog X.w) X.A (spliced (backTo pos (starEach es X.env))) (AP X pins σ Q) X.xe s
def WS (X : Cx) (st : Stmt) : TS := fun D σ H => ∀ pins s, Inv X pins σ H s → wpAny (model X.prog X.w) X.A (exec st X.env) (SP X pins D) X.xe s
def WSs (X : Cx) (st : List Stmt) : TS := fun D σ H => ∀ pins s, Inv X pins σ H s → wpAny (model X.prog X.w) X.A (execs st X.env) (SP X pins D) X.xe s
def WI (X : Cx) (tg iter : Expr) : TI := fun σ H R => ∀ pins s, Inv X pins σ H s → wpAny (model X.prog X.w) X.A (eval iter X.env) (fun v s1 => wpAny (model X.prog X.w) X.A (pyIter v) (PIE X pins σ tg R) X.xe s1) X.xe s
def WTs (X : Cx) (ifs : List Expr) : TT := fun σ H Q => ∀ pins s, Inv X pins σ H s → wpAny (model X.prog X.w) X.A (forIn ifs true fun c r => if r = true then do let ok ← isTrue c X.env (eval c X.env); pure (ForInStep.yield ok) else pure (ForInStep.yield r)) (TP X pins σ Q) X.xe s
section
variable {M : Md} {X : Cx} {e : Expr} {es : List Expr} {st : Stmt} {sts : List Stmt} {tg : Expr}
theorem pe_we : PE X e (WE X e) := ⟨fun pins s σ H Q I h => h pins s I⟩
theorem pt_wt : PT X e (WT X e) := ⟨fun pins s σ H Q I h => h pins s I⟩
theorem pa_wa : PA X es (WA X es) := ⟨fun pos pins s σ H Q I h => h pos pins s I⟩
theorem ps_ws : PS X st (WS X st) := ⟨fun pins s σ H D I h => h pins s I⟩
theorem pss_wss : PSs X sts (WSs X sts) := ⟨fun pins s σ H D I h => h pins s I⟩
theorem pi_wi : PI X tg e (WI X tg e) := ⟨fun pins s σ H R I h => h pins s I⟩
theorem pts_wts : PTs X es (WTs X es) := ⟨fun pins s σ H Q I h => h pins s I⟩
theorem we_of {t : TE} {σ : St} {H : Hp} {Q : VK} (h : PE X e t) (q : t σ H Q) : WE X e σ H Q := fun pins s I => h.run pins s σ H Q I q
theorem wt_of {t : TT} {σ : St} {H : Hp} {Q : Bool → Hp → Prop} (h : PT X e t) (q : t σ H Q) : WT X e σ H Q := fun pins s I => h.run pins s σ H Q I q
theorem wa_of {t : TA} {σ : St} {H : Hp} {Q : List V → Hp → Prop} (h : PA X es t) (q : t σ H Q) : WA X es σ H Q := fun pos pins s I => h.run pos pins s σ H Q I q
theorem ws_of {t : TS} {σ : St} {H : Hp} {D : Ends} (h : PS X st t) (q : t D σ H) : WS X st D σ H := fun pins s I => h.run pins s σ H D I q
theorem wss_of {t : TS} {σ : St} {H : Hp} {D : Ends} (h : PSs X sts t) (q : t D σ H) : WSs X sts D σ H := fun pins s I => h.run pins s σ H D I q
theorem wi_of {t : TI} {σ : St} {H : Hp} {R : It → Hp → Prop} (h : PI X tg e t) (q : t σ H R) : WI X tg e σ H R := fun pins s I => h.run pins s σ H R I q
theorem wts_of {t : TT} {σ : St} {H : Hp} {Q : Bool → Hp → Prop} (h : PTs X es t) (q : t σ H Q) : WTs X es σ H Q := fun pins s I => h.run pins s σ H Q I q
theorem WE.imp {σ : St} {H : Hp} {Q Q' : VK} (h : WE X e σ H Q) (i : ∀ v H1, Q v H1 → Q' v H1) : WE X e σ H Q' := fun pins s I =>
  thn (h pins s I) fun u s1 ⟨v, H1, I1, r, q⟩ => ⟨v, H1, I1, r, i v H1 q⟩
theorem WT.imp {σ : St} {H : Hp} {Q Q' : Bool → Hp → Prop} (h : WT X e σ H Q) (i : ∀ v H1, Q v H1 → Q' v H1) : WT X e σ H Q' := fun pins s I =>
  thn (h pins s I) fun u s1 ⟨H1, I1, q⟩ => ⟨H1, I1, i u H1 q⟩
theorem WA.imp {σ : St} {H : Hp} {Q Q' : List V → Hp → Prop} (h : WA X es σ H Q) (i : ∀ v H1, Q v H1 → Q' v H1) : WA X es σ H Q' := fun pos pins s I =>
  thn (h pos pins s I) fun u s1 ⟨vs, H1, I1, r, q⟩ => ⟨vs, H1, I1, r, i vs H1 q⟩
end

/-! ### judgements: from a heap and all that grow out of it -/
def JK (M : Md) (X : Cx) (e : Expr) (σ : St) (H : Hp) (K : Kn) : Prop := ∀ H1, Xt M H H1 → ∀ Q : VK, (∀ v H2, Xt M H1 H2 → K H2 v → Q v H2) → WE X e σ H1 Q
/-- a new list of these data -/
def JL (M : Md) (X : Cx) (e : Expr) (σ : St) (H : Hp) (ds : List PyData) : Prop := ∀ H1, Xt M H H1 → ∀ Q : VK, (∀ p xs H2, H1 p = none → Xt M H1 H2 → H2 p = some (.lst xs) → RpL H2 xs ds → Q (.ref p) H2) → WE X e σ H1 Q
/-- a new dict -/
def JDK (M : Md) (X : Cx) (e : Expr) (σ : St) (H : Hp) (kvs : List (Key × V)) : Prop := ∀ H1, Xt M H H1 → ∀ Q : VK, (∀ p H2, H1 p = none → Xt M H1 H2 → H2 p = some (.dK kvs) → Q (.ref p) H2) → WE X e σ H1 Q
def JT (M : Md) (X : Cx) (e : Expr) (σ : St) (H : Hp) (b : Bool) : Prop := ∀ H1, Xt M H H1 → ∀ Q : Bool → Hp → Prop, (∀ H2, Xt M H1 H2 → Q b H2) → WT X e σ H1 Q
def JTs (M : Md) (X : Cx) (es : List Expr) (σ : St) (H : Hp) (b : Bool) : Prop := ∀ H1, Xt M H H1 → ∀ Q : Bool → Hp → Prop, (∀ H2, Xt M H1 H2 → Q b H2) → WTs X es σ H1 Q
def JA (M : Md) (X : Cx) (es : List Expr) (σ : St) (H : Hp) (Ks : List Kn) : Prop := ∀ H1, Xt M H H1 → ∀ Q : List V → Hp → Prop, (∀ vs H2, Xt M H1 H2 → KAll Ks H2 vs → Q vs H2) → WA X es σ H1 Q
section
variable {M : Md} {X : Cx} {e a b c : Expr} {es rest : List Expr} {σ : St} {H H' : Hp} {K K' Ka Kb : Kn} {Ks : List Kn} {pos : Pos} {ds : List PyData} {d : PyData}
theorem JK.up (x : Xt M H H') (h : JK M X e σ H K) : JK M X e σ H' K := fun H1 y Q q => h H1 (x.trans y) Q q
theorem JL.up (x : Xt M H H') (h : JL M X e σ H ds) : JL M X e σ H' ds := fun H1 y Q q => h H1 (x.trans y) Q q
theorem JT.up {b : Bool} (x : Xt M H H') (h : JT M X e σ H b) : JT M X e σ H' b := fun H1 y Q q => h H1 (x.trans y) Q q
theorem JA.up (x : Xt M H H') (h : JA M X es σ H Ks) : JA M X es σ H' Ks := fun H1 y Q q => h H1 (x.trans y) Q q
theorem JK.imp (h : JK M X e σ H K) (i : ∀ H v, K H v → K' H v) : JK M X e σ H K' := fun H1 x Q q => h H1 x Q fun v H2 y k => q v H2 y (i H2 v k)
theorem JK.is (h : JK M X e σ H (kD d)) {d' : PyData} (i : d = d') : JK M X e σ H (kD d') := i ▸ h
theorem JT.is {b b' : Bool} (h : JT M X e σ H b) (i : b = b') : JT M X e σ H b' := i ▸ h
theorem JL.is (h : JL M X e σ H ds) {ds' : List PyData} (i : ds = ds') : JL M X e σ H ds' := i ▸ h
theorem JL.k (h : JL M X e σ H ds) (hi : M.i H := by first | exact trivial | assumption) : JK M X e σ H (kL M ds) := fun H1 x Q q => h H1 x Q fun p xs H2 n y e r => q _ H2 y ⟨p, xs, rfl, e, r, M.new (x.inv hi) n⟩
theorem JDK.k {kvs : List (Key × V)} (h : JDK M X e σ H kvs) (hi : M.i H := by first | exact trivial | assumption) : JK M X e σ H (kK M kvs) := fun H1 x Q q => h H1 x Q fun p H2 n y e => q _ H2 y ⟨p, rfl, .inl e, M.new (x.inv hi) n⟩

/-! names, constants -/
theorem j_var (i : Nat) {x : Str} {v : V} [Mn M K] (hs : σ[i]? = some (some v)) (k : K H v) (hN : X.N[i]? = some x := by rfl)
    (hv : Vis X.env.scope x := by first | exact Or.inl rfl | exact Or.inr (Or.inl rfl) | exact Or.inr (Or.inr rfl)) (hd : (x == ("__debug__" : Str)) = false := by decide)
    (hcd : (x == ("__classdict__" : Str)) = false := by decide) : JK M X (.Name x pos) σ H K := fun H1 y Q q =>
  we_of (pe_var hN hv hd hcd) ⟨v, hs, q v H1 (Xt.refl H1) (Mn.mono y k)⟩
theorem j_int {i : Int} {j : Nat} : JK M X (.Constant (.int i) j pos) σ H (kI i) := fun H1 _ Q q => we_of pe_int (q _ H1 (Xt.refl H1) (Rp.int i))
theorem j_bl {i : Bool} {j : Nat} : JK M X (.Constant (.bool i) j pos) σ H (kB i) := fun H1 _ Q q => we_of pe_bl (q _ H1 (Xt.refl H1) (Rp.bl i))
theorem j_non {j : Nat} : JK M X (.Constant .none j pos) σ H (kD .none) := fun H1 _ Q q => we_of pe_non (q _ H1 (Xt.refl H1) Rp.non)
theorem j_str {i : Str} {j : Nat} : JK M X (.Constant (.str i) j pos) σ H (kD (.str i)) := fun H1 _ Q q => we_of pe_str (q _ H1 (Xt.refl H1) (Rp.str i))
theorem j_glob {x : Str} {v : V} {u : Value} (hg : Gl X x) (hm : X.mg x = some u) (r : RelV v u) (k : ∀ H, K H v) (hd : (x == ("__debug__" : Str)) = false := by decide) : JK M X (.Name x pos) σ H K := fun H1 y Q q =>
  we_of (pe_glob hg hm r hd) (q v H1 (Xt.refl H1) (k H1))
theorem j_bltn {x : Str} {v : V} {u : Value} (hg : Gl X x) (hm : X.mg x = none) (hv : bootBuiltins x = some u) (r : RelV v u) (hn : x ≠ "__name__" := by decide) (hd : (x == ("__debug__" : Str)) = false := by decide) : JK M X (.Name x pos) σ H (kE v) := fun H1 y Q q =>
  we_of (pe_bltn hg hm hv r hn hd) (q v H1 (Xt.refl H1) rfl)

/-! arguments, displays -/
theorem ja_nil : JA M X [] σ H [] := fun H1 _ Q q => wa_of pa_nil (q [] H1 (Xt.refl H1) rfl)
theorem ja_cons [Mn M K] (ha : JK M X e σ H K) (hr : JA M X es σ H Ks) (hs : starEach (e :: es) X.env = (false, eval e X.env) :: starEach es X.env := by rfl) : JA M X (e :: es) σ H (K :: Ks) := fun H1 x Q q =>
  wa_of (pa_cons pe_we pa_wa hs) (ha H1 x _ fun v H2 y k => hr H2 (x.trans y) _ fun vs H3 z ks => q (v :: vs) H3 (y.trans z) ⟨v, vs, rfl, Mn.mono z k, ks⟩)
theorem j_tup0 {k : Nat} : JK M X (.Tuple [] k pos) σ H (kD (.tuple [])) := fun H1 x Q q =>
  we_of (pe_tup pa_nil) ⟨by decide, fun p hp => q _ _ (Xt.new hp) (Rp.tup upd_same .nil)⟩
theorem j_tupN {k : Nat} {n : Nat} (ha : JA M X es σ H Ks) (hn : ∀ H vs, KAll Ks H vs → RpL H vs ds) (hl : ds.length ≤ 100 := by decide) : JK M X (.Tuple es k pos) σ H (kD (.tuple ds)) := fun H1 x Q q =>
  we_of (pe_tup pa_wa) (ha H1 x _ fun vs H2 y k => by
    have r := hn H2 vs k
    refine ⟨?_, fun p hp => q _ _ (y.trans (Xt.new hp)) (Rp.tup upd_same (RpL.tm (Xt.new (M := M) hp).tm ds r))⟩
    rw [r.length]
    exact Nat.le_trans hl (by decide))
theorem ka1 {d1 : PyData} (H : Hp) (vs : List V) (h : KAll [kD d1] H vs) : RpL H vs [d1] := by
  obtain ⟨v, r, rfl, k, rfl⟩ := h
  exact .cons k .nil
theorem ka2 {d1 d2 : PyData} (H : Hp) (vs : List V) (h : KAll [kD d1, kD d2] H vs) : RpL H vs [d1, d2] := by
  obtain ⟨v, r, rfl, k, h⟩ := h
  exact .cons k (ka1 H r h)
theorem ka3 {d1 d2 d3 : PyData} (H : Hp) (vs : List V) (h : KAll [kD d1, kD d2, kD d3] H vs) : RpL H vs [d1, d2, d3] := by
  obtain ⟨v, r, rfl, k, h⟩ := h
  exact .cons k (ka2 H r h)
theorem ka4 {d1 d2 d3 d4 : PyData} (H : Hp) (vs : List V) (h : KAll [kD d1, kD d2, kD d3, kD d4] H vs) : RpL H vs [d1, d2, d3, d4] := by
  obtain ⟨v, r, rfl, k, h⟩ := h
  exact .cons k (ka3 H r h)
theorem j_tup1 {k : Nat} {d1 : PyData} (h1 : JK M X a σ H (kD d1)) (hs : starEach [a] X.env = (false, eval a X.env) :: starEach [] X.env := by rfl) : JK M X (.Tuple [a] k pos) σ H (kD (.tuple [d1])) :=
  j_tupN (n := 1) (ja_cons h1 ja_nil hs) ka1 (by show 1 ≤ 100; decide)
theorem j_tup2 {k : Nat} {d1 d2 : PyData} (h1 : JK M X a σ H (kD d1)) (h2 : JK M X b σ H (kD d2)) (hs : starEach [a, b] X.env = (false, eval a X.env) :: starEach [b] X.env := by rfl) (hs1 : starEach [b] X.env = (false, eval b X.env) :: starEach [] X.env := by rfl) : JK M X (.Tuple [a, b] k pos) σ H (kD (.tuple [d1, d2])) :=
  j_tupN (n := 2) (ja_cons h1 (ja_cons h2 ja_nil hs1) hs) ka2 (by show 2 ≤ 100; decide)
theorem j_tup3 {k : Nat} {d1 d2 d3 : PyData} (h1 : JK M X a σ H (kD d1)) (h2 : JK M X b σ H (kD d2)) (h3 : JK M X c σ H (kD d3)) (hs : starEach [a, b, c] X.env = (false, eval a X.env) :: starEach [b, c] X.env := by rfl) (hs1 : starEach [b, c] X.env = (false, eval b X.env) :: starEach [c] X.env := by rfl) (hs2 : starEach [c] X.env = (false, eval c X.env) :: starEach [] X.env := by rfl) : JK M X (.Tuple [a, b, c] k pos) σ H (kD (.tuple [d1, d2, d3])) :=
  j_tupN (n := 3) (ja_cons h1 (ja_cons h2 (ja_cons h3 ja_nil hs2) hs1) hs) ka3 (by show 3 ≤ 100; decide)
theorem j_lst0 : JL M X (.List [] pos) σ H [] := fun H1 x Q q =>
  we_of (pe_lst pa_nil) ⟨by decide, fun p hp => q p [] _ hp (Xt.new hp) upd_same .nil⟩
theorem j_lst1 {d1 : PyData} (h1 : JK M X a σ H (kD d1)) (hs : starEach [a] X.env = (false, eval a X.env) :: starEach [] X.env := by rfl) : JL M X (.List [a] pos) σ H [d1] := fun H1 x Q q =>
  we_of (pe_lst pa_wa) (ja_cons h1 ja_nil hs H1 x _ fun vs H2 y k => by
    have r := ka1 H2 vs k
    refine ⟨?_, fun p hp => q p vs _ (y.free p hp) (y.trans (Xt.new hp)) upd_same (RpL.tm (Xt.new (M := M) hp).tm _ r)⟩
    rw [r.length]
    show 1 ≤ sizeLine
    decide)

/-! two operands -/
/-- an operation on such values gives such a value -/
def OpK (M : Md) (f : Value → Value → Sem Value) (X : Cx) (Ka Kb K : Kn) : Prop := ∃ r : R2, OpR X f r ∧ ∀ H x y (Q : VK), Ka H x → Kb H y → (∀ v H', Xt M H H' → K H' v → Q v H') → r x y H Q
theorem j_op {op : Operator} [Mn M Ka] (o : OpK M (binaryOp op) X Ka Kb K) (ha : JK M X a σ H Ka) (hb : JK M X b σ H Kb) : JK M X (.BinOp a op b pos) σ H K := fun H1 x Q q => by
  obtain ⟨r, hr, ho⟩ := o
  exact we_of (pe_op hr pe_we pe_we) (ha H1 x _ fun v H2 y k => hb H2 (x.trans y) _ fun w H3 z k' => ho H3 v w Q (Mn.mono z k) k' fun u H4 t ku => q u H4 ((y.trans z).trans t) ku)
theorem j_cmp {op : CmpOp} [Mn M Ka] (o : OpK M (compareOp op) X Ka Kb K) (ha : JK M X a σ H Ka) (hb : JK M X b σ H Kb) (hm : behindInMarks op b = false := by rfl) : JK M X (.Compare a [op] [b] pos) σ H K := fun H1 x Q q => by
  obtain ⟨r, hr, ho⟩ := o
  exact we_of (pe_cmpR hr pe_we pe_we hm) (ha H1 x _ fun v H2 y k => hb H2 (x.trans y) _ fun w H3 z k' => ho H3 v w Q (Mn.mono z k) k' fun u H4 t ku => q u H4 ((y.trans z).trans t) ku)
theorem jt_cmp {op : CmpOp} {t : Bool} [Mn M Ka] (o : OpK M (compareOp op) X Ka Kb (kB t)) (ha : JK M X a σ H Ka) (hb : JK M X b σ H Kb) (hm : behindInMarks op b = false := by rfl) : JT M X (.Compare a [op] [b] pos) σ H t := fun H1 x Q q => by
  obtain ⟨r, hr, ho⟩ := o
  exact wt_of (pt_cmpR hr pe_we pe_we hm) (ha H1 x _ fun v H2 y k => hb H2 (x.trans y) _ fun w H3 z k' => ho H3 v w _ (Mn.mono z k) k' fun u H4 t ku => ⟨_, kB_eq ku, q H4 ((y.trans z).trans t)⟩)
theorem j_ix [Mn M Ka] (o : ∃ r : R2, IxR X r ∧ ∀ H x y (Q : VK), Ka H x → Kb H y → (∀ v H', Xt M H H' → K H' v → Q v H') → r x y H Q) (ha : JK M X a σ H Ka) (hb : JK M X b σ H Kb) (hp : PlainIx b := by intro _ _; rfl) : JK M X (.Subscript a b pos) σ H K := fun H1 x Q q => by
  obtain ⟨r, hr, ho⟩ := o
  exact we_of (pe_ix hr pe_we pe_we hp) (ha H1 x _ fun v H2 y k => hb H2 (x.trans y) _ fun w H3 z k' => ho H3 v w Q (Mn.mono z k) k' fun u H4 t ku => q u H4 ((y.trans z).trans t) ku)

/-! tests, and, or, not, conditional expressions -/
theorem jt_val {t : Bool} (h : JK M X e σ H (kB t)) (he : ∀ whole, isTrue e X.env whole = (do let v ← whole; standAt e.pos; holding [v] (truthy v)) := by intro _; rfl) : JT M X e σ H t := fun H1 x Q q =>
  wt_of (pt_val pe_we he) (h H1 x _ fun v H2 y k => ⟨_, kB_eq k, q H2 y⟩)
theorem jt_not {t : Bool} (h : JT M X a σ H t) : JT M X (.UnaryOp .Not a pos) σ H (!t) := fun H1 x Q q =>
  wt_of (pt_not pt_wt) (h H1 x _ fun H2 y => q H2 y)
/-- a chain of and, or: as a test whatever stands behind -/
def JW (M : Md) (X : Cx) (e : Expr) (σ : St) (H : Hp) (b : Bool) : Prop := ∀ H1, Xt M H H1 → ∀ Q : Bool → Hp → Prop, (∀ H2, Xt M H1 H2 → Q b H2) → ∀ whole pins s, Inv X pins σ H1 s → wpAny (model X.prog X.w) X.A (isTrue e X.env whole) (TP X pins σ Q) X.xe s
theorem jw_jt {t : Bool} (h : JW M X e σ H t) : JT M X e σ H t := fun H1 x Q q pins s I => h H1 x Q q _ pins s I
def WW (X : Cx) (e : Expr) : TT := fun σ H Q => ∀ whole pins s, Inv X pins σ H s → wpAny (model X.prog X.w) X.A (isTrue e X.env whole) (TP X pins σ Q) X.xe s
theorem pw_ww : PW X e (WW X e) := ⟨fun whole pins s σ H Q I h => h whole pins s I⟩
theorem ww_of {t : TT} {Q : Bool → Hp → Prop} (h : PW X e t) (q : t σ H Q) : WW X e σ H Q := fun whole pins s I => h.run whole pins s σ H Q I q
theorem jw_and1 {t : Bool} (h : JT M X a σ H t) : JW M X (.BoolOp .And [a] pos) σ H t := fun H1 x Q q => ww_of (pw_and1 pt_wt) (h H1 x Q q)
theorem jw_or1 {t : Bool} (h : JT M X a σ H t) : JW M X (.BoolOp .Or [a] pos) σ H t := fun H1 x Q q => ww_of (pw_or1 pt_wt) (h H1 x Q q)
theorem jw_and {t u : Bool} (h : JT M X a σ H t) (h2 : t = true → JW M X (.BoolOp .And (b :: rest) pos) σ H u) : JW M X (.BoolOp .And (a :: b :: rest) pos) σ H (t && u) := fun H1 x Q q =>
  ww_of (pw_and pt_wt pw_ww) (h H1 x _ fun H2 y => by
    cases t with
    | true => exact h2 rfl H2 (x.trans y) Q fun H3 z => q H3 (y.trans z)
    | false => exact q H2 y)
theorem jw_or {t u : Bool} (h : JT M X a σ H t) (h2 : t = false → JW M X (.BoolOp .Or (b :: rest) pos) σ H u) : JW M X (.BoolOp .Or (a :: b :: rest) pos) σ H (t || u) := fun H1 x Q q =>
  ww_of (pw_or pt_wt pw_ww) (h H1 x _ fun H2 y => by
    cases t with
    | false => exact h2 rfl H2 (x.trans y) Q fun H3 z => q H3 (y.trans z)
    | true => exact q H2 y)
theorem jt_and {t u : Bool} (h : JT M X a σ H t) (h2 : t = true → JT M X b σ H u) : JT M X (.BoolOp .And [a, b] pos) σ H (t && u) := jw_jt (jw_and h fun z => jw_and1 (h2 z))
theorem jt_or {t u : Bool} (h : JT M X a σ H t) (h2 : t = false → JT M X b σ H u) : JT M X (.BoolOp .Or [a, b] pos) σ H (t || u) := jw_jt (jw_or h fun z => jw_or1 (h2 z))
theorem j_one {op : BoolOp} (h : JK M X a σ H K) : JK M X (.BoolOp op [a] pos) σ H K := fun H1 x Q q => we_of (pe_one pe_we) (h H1 x Q q)
theorem j_and {t u : Bool} (h : JK M X a σ H (kB t)) (h2 : t = true → JK M X (.BoolOp .And (b :: rest) pos) σ H (kB u)) : JK M X (.BoolOp .And (a :: b :: rest) pos) σ H (kB (t && u)) := fun H1 x Q q =>
  we_of (pe_and pe_we pe_we) (h H1 x _ fun v H2 y k => ⟨t, kB_eq k, by
    cases t with
    | true => exact h2 rfl H2 (x.trans y) Q fun w H3 z k' => q w H3 (y.trans z) k'
    | false => exact q _ H2 y kB_of⟩)
theorem j_or {t u : Bool} (h : JK M X a σ H (kB t)) (h2 : t = false → JK M X (.BoolOp .Or (b :: rest) pos) σ H (kB u)) : JK M X (.BoolOp .Or (a :: b :: rest) pos) σ H (kB (t || u)) := fun H1 x Q q =>
  we_of (pe_or pe_we pe_we) (h H1 x _ fun v H2 y k => ⟨t, kB_eq k, by
    cases t with
    | false => exact h2 rfl H2 (x.trans y) Q fun w H3 z k' => q w H3 (y.trans z) k'
    | true => exact q _ H2 y kB_of⟩)
theorem j_not {t : Bool} (h : JK M X a σ H (kB t)) : JK M X (.UnaryOp .Not a pos) σ H (kB (!t)) := fun H1 x Q q =>
  we_of (pe_not pe_we) (h H1 x _ fun v H2 y k => ⟨t, kB_eq k, q _ H2 y kB_of⟩)
theorem j_if {t : Bool} (hc : JT M X c σ H t) (h1 : t = true → JK M X a σ H K) (h2 : t = false → JK M X b σ H K) : JK M X (.IfExp c a b pos) σ H K := fun H1 x Q q =>
  we_of (pe_ifExp pt_wt pe_we pe_we) (hc H1 x _ fun H2 y => by
    cases t with
    | true => exact h1 rfl H2 (x.trans y) Q fun w H3 z k' => q w H3 (y.trans z) k'
    | false => exact h2 rfl H2 (x.trans y) Q fun w H3 z k' => q w H3 (y.trans z) k')
theorem jts_nil : JTs M X [] σ H true := fun H1 x Q q => wts_of pts_nil (q H1 (Xt.refl H1))
theorem jts_one {t : Bool} (h : JT M X a σ H t) : JTs M X [a] σ H t := fun H1 x Q q => wts_of (pts_one pt_wt) (h H1 x Q q)
theorem j_chain {op op' : CmpOp} {t u : Bool} [Mn M Ka] [Mn M Kb] {Kc : Kn} (o : OpK M (compareOp op) X Ka Kb (kB t)) (o' : t = true → OpK M (compareOp op') X Kb Kc (kB u)) (ho' : t = false → ∃ r, OpR X (compareOp op') r) (ha : JK M X a σ H Ka) (hb : JK M X b σ H Kb) (hc : JK M X c σ H Kc)
    (hm : lastMarks [op, op'] [b, c] = false := by with_unfolding_all rfl) : JK M X (.Compare a [op, op'] [b, c] pos) σ H (kB (t && u)) := fun H1 x Q q => by
  obtain ⟨r, hr, ho⟩ := o
  cases t with
  | true =>
    obtain ⟨r', hr', ho'⟩ := o' rfl
    exact we_of (pe_chain hr hr' pe_we pe_we pe_we hm) (ha H1 x _ fun v H2 y k => hb H2 (x.trans y) _ fun w H3 z k' => ho H3 v w _ (Mn.mono z k) k' fun u4 H4 t4 ku => ⟨true, kB_eq ku, by
      rw [if_pos rfl]
      exact hc H4 (((x.trans y).trans z).trans t4) _ fun w5 H5 z5 k5 => ho' H5 w w5 Q (Mn.mono z5 (Mn.mono t4 k')) k5 fun u6 H6 t6 k6 => q u6 H6 ((((y.trans z).trans t4).trans z5).trans t6) k6⟩)
  | false =>
    obtain ⟨r', hr'⟩ := ho' rfl
    exact we_of (pe_chain hr hr' pe_we pe_we pe_we hm) (ha H1 x _ fun v H2 y k => hb H2 (x.trans y) _ fun w H3 z k' => ho H3 v w _ (Mn.mono z k) k' fun u4 H4 t4 ku => ⟨false, kB_eq ku, by
      rw [if_neg Bool.false_ne_true]
      exact q _ H4 ((y.trans z).trans t4) kB_of⟩)
end
end K68

set_option Elab.async false
set_option linter.all false
set_option maxRecDepth 100000
/-! K68, text A2: operations, calls of built-ins and of defs. -/
namespace K68
open PySem PySem.Spec L2
open PyProof.Rows hiding St
section
variable {M : Md} {X : Cx} {Ka Kb K : Kn}
/-! ### numbers -/
theorem ok_add {i j : Int} : OpK M (binaryOp .Add) X (kI i) (kI j) (kI (i + j)) := ⟨_, op_add, fun H x y Q a b q => ⟨i, j, kI_eq a, kI_eq b, q _ H (Xt.refl H) kI_of⟩⟩
theorem ok_sub {i j : Int} : OpK M (binaryOp .Sub) X (kI i) (kI j) (kI (i - j)) := ⟨_, op_sub, fun H x y Q a b q => ⟨i, j, kI_eq a, kI_eq b, q _ H (Xt.refl H) kI_of⟩⟩
theorem ok_mul {i j : Int} (h : CMul i j) : OpK M (binaryOp .Mult) X (kI i) (kI j) (kI (i * j)) := ⟨_, op_mul, fun H x y Q a b q => ⟨i, j, kI_eq a, kI_eq b, h, q _ H (Xt.refl H) kI_of⟩⟩
theorem ok_fdiv {i j : Int} (h : CDiv i j) : OpK M (binaryOp .FloorDiv) X (kI i) (kI j) (kI (i / j)) := ⟨_, op_fdiv, fun H x y Q a b q => ⟨i, j, kI_eq a, kI_eq b, h, q _ H (Xt.refl H) kI_of⟩⟩
theorem ok_mod {i j : Int} (h : 0 < j) : OpK M (binaryOp .Mod) X (kI i) (kI j) (kI (i % j)) := ⟨_, op_mod, fun H x y Q a b q => ⟨i, j, kI_eq a, kI_eq b, h, q _ H (Xt.refl H) kI_of⟩⟩
theorem ok_lt {i j : Int} : OpK M (compareOp .Lt) X (kI i) (kI j) (kB (decide (i < j))) := ⟨_, op_lt, fun H x y Q a b q => ⟨i, j, kI_eq a, kI_eq b, q _ H (Xt.refl H) kB_of⟩⟩
theorem ok_le {i j : Int} : OpK M (compareOp .LtE) X (kI i) (kI j) (kB (decide (i ≤ j))) := ⟨_, op_le, fun H x y Q a b q => ⟨i, j, kI_eq a, kI_eq b, q _ H (Xt.refl H) kB_of⟩⟩
theorem ok_gt {i j : Int} : OpK M (compareOp .Gt) X (kI i) (kI j) (kB (decide (j < i))) := ⟨_, op_gt, fun H x y Q a b q => ⟨i, j, kI_eq a, kI_eq b, q _ H (Xt.refl H) kB_of⟩⟩
theorem ok_ge {i j : Int} : OpK M (compareOp .GtE) X (kI i) (kI j) (kB (decide (j ≤ i))) := ⟨_, op_ge, fun H x y Q a b q => ⟨i, j, kI_eq a, kI_eq b, q _ H (Xt.refl H) kB_of⟩⟩
theorem ok_eqI {i j : Int} : OpK M (compareOp .Eq) X (kI i) (kI j) (kB (decide (i = j))) := ⟨_, op_eq, fun H x y Q a b q => ⟨by rw [kI_eq a, kI_eq b]; rfl, by
  rw [kI_eq a, kI_eq b, show decide (V.int i = V.int j) = decide (i = j) by simp]
  exact q _ H (Xt.refl H) kB_of⟩⟩
theorem ok_neI {i j : Int} : OpK M (compareOp .NotEq) X (kI i) (kI j) (kB (!decide (i = j))) := ⟨_, op_ne, fun H x y Q a b q => ⟨by rw [kI_eq a, kI_eq b]; rfl, by
  rw [kI_eq a, kI_eq b, show decide (V.int i = V.int j) = decide (i = j) by simp]
  exact q _ H (Xt.refl H) kB_of⟩⟩
theorem ok_neB {i j : Bool} : OpK M (compareOp .NotEq) X (kB i) (kB j) (kB (!decide (i = j))) := ⟨_, op_ne, fun H x y Q a b q => ⟨by rw [kB_eq a, kB_eq b]; rfl, by
  rw [kB_eq a, kB_eq b, show decide (V.bl i = V.bl j) = decide (i = j) by simp]
  exact q _ H (Xt.refl H) kB_of⟩⟩
theorem kS_eq {H : Hp} {v : V} {i : Str} (h : kD (.str i) H v) : v = .str i := by
  have h : Rp H v (.str i) := h
  cases h
  rfl
theorem ok_eqS {i j : Str} : OpK M (compareOp .Eq) X (kD (.str i)) (kD (.str j)) (kB (decide (i = j))) := ⟨_, op_eq, fun H x y Q a b q => ⟨by rw [kS_eq a, kS_eq b]; rfl, by
  rw [kS_eq a, kS_eq b, show decide (V.str i = V.str j) = decide (i = j) by simp]
  exact q _ H (Xt.refl H) kB_of⟩⟩
theorem ok_neS {i j : Str} : OpK M (compareOp .NotEq) X (kD (.str i)) (kD (.str j)) (kB (!decide (i = j))) := ⟨_, op_ne, fun H x y Q a b q => ⟨by rw [kS_eq a, kS_eq b]; rfl, by
  rw [kS_eq a, kS_eq b, show decide (V.str i = V.str j) = decide (i = j) by simp]
  exact q _ H (Xt.refl H) kB_of⟩⟩
/-! ### None, truth values -/
theorem kN_eq {H : Hp} {v : V} (h : kD .none H v) : v = .non := by
  have h : Rp H v .none := h
  cases h
  rfl
theorem rp_non {H : Hp} {v : V} {d : PyData} (h : Rp H v d) : decide (v = .non) = (match d with | .none => true | _ => false) := by
  cases h with
  | non => exact decide_eq_true rfl
  | bl b => exact decide_eq_false (fun z => nomatch z)
  | int i => exact decide_eq_false (fun z => nomatch z)
  | str x => exact decide_eq_false (fun z => nomatch z)
  | tup a b => exact decide_eq_false (fun z => nomatch z)
theorem ok_isN {b : Bool} (h : ∀ H v, Ka H v → decide (v = .non) = b) : OpK M (compareOp .Is) X Ka (kD .none) (kB b) := ⟨_, op_isN, fun H x y Q a c q => ⟨kN_eq c, by
  rw [h H x a]
  exact q _ H (Xt.refl H) kB_of⟩⟩
theorem ok_notN {b : Bool} (h : ∀ H v, Ka H v → decide (v = .non) = b) : OpK M (compareOp .IsNot) X Ka (kD .none) (kB (!b)) := ⟨_, op_notN, fun H x y Q a c q => ⟨kN_eq c, by
  rw [h H x a]
  exact q _ H (Xt.refl H) kB_of⟩⟩
theorem ok_isB {i j : Bool} : OpK M (compareOp .Is) X (kB i) (kB j) (kB (decide (i = j))) := ⟨_, op_isBl, fun H x y Q a b q => ⟨i, j, kB_eq a, kB_eq b, q _ H (Xt.refl H) kB_of⟩⟩
theorem ok_notB {i j : Bool} : OpK M (compareOp .IsNot) X (kB i) (kB j) (kB (!decide (i = j))) := ⟨_, op_notBl, fun H x y Q a b q => ⟨i, j, kB_eq a, kB_eq b, q _ H (Xt.refl H) kB_of⟩⟩
/-! ### in -/
theorem inV_int (c : Int) (cs : List Int) : inV (.int c) (cs.map V.int) = decide (c ∈ cs) := by
  unfold inV
  induction cs with
  | nil => rfl
  | cons x r ih =>
    rw [List.map_cons, List.any_cons, ih]
    have e : eqV (.int x) (.int c) = decide (x = c) := by
      show (x == c) = _
      rw [Bool.beq_eq_decide_eq]
    rw [e, Bool.eq_iff_iff, Bool.or_eq_true, decide_eq_true_eq, decide_eq_true_eq, decide_eq_true_eq, List.mem_cons]
    exact ⟨fun h => h.elim (fun z => .inl z.symm) .inr, fun h => h.elim (fun z => .inl z.symm) .inr⟩
theorem flat_ints (cs : List Int) : (cs.map V.int).all flatV = true := by
  rw [List.all_eq_true]
  intro x hx
  obtain ⟨c, _, rfl⟩ := List.mem_map.mp hx
  rfl
theorem rp_tup {H : Hp} {v : V} {ds : List PyData} (h : kD (.tuple ds) H v) : ∃ a xs, v = .ref a ∧ H a = some (.tup xs) ∧ RpL H xs ds := by
  have h : Rp H v (.tuple ds) := h
  cases h with
  | tup a b => exact ⟨_, _, rfl, a, b⟩
theorem ok_inT {c : Int} {cs : List Int} : OpK M (compareOp .In) X (kI c) (kD (.tuple (cs.map .int))) (kB (decide (c ∈ cs))) := ⟨_, op_in_seq, fun H x y Q a b q => by
  obtain ⟨p, xs, rfl, e, r⟩ := rp_tup b
  rw [r.ints] at e
  rw [kI_eq a]
  refine ⟨p, _, rfl, .inr (SqT.of e), rfl, flat_ints cs, ?_⟩
  rw [inV_int]
  exact q _ H (Xt.refl H) kB_of⟩
theorem ok_notInT {c : Int} {cs : List Int} : OpK M (compareOp .NotIn) X (kI c) (kD (.tuple (cs.map .int))) (kB (!decide (c ∈ cs))) := ⟨_, op_notIn_seq, fun H x y Q a b q => by
  obtain ⟨p, xs, rfl, e, r⟩ := rp_tup b
  rw [r.ints] at e
  rw [kI_eq a]
  refine ⟨p, _, rfl, .inr (SqT.of e), rfl, flat_ints cs, ?_⟩
  rw [inV_int]
  exact q _ H (Xt.refl H) kB_of⟩
theorem ok_inL {c : Int} {cs : List Int} : OpK M (compareOp .In) X (kI c) (kL M (cs.map .int)) (kB (decide (c ∈ cs))) := ⟨_, op_in_seq, fun H x y Q a b q => by
  obtain ⟨p, xs, rfl, e, r, _⟩ := b
  rw [r.ints] at e
  rw [kI_eq a]
  refine ⟨p, _, rfl, .inl (SqL.of e), rfl, flat_ints cs, ?_⟩
  rw [inV_int]
  exact q _ H (Xt.refl H) kB_of⟩
theorem ok_notInL {c : Int} {cs : List Int} : OpK M (compareOp .NotIn) X (kI c) (kL M (cs.map .int)) (kB (!decide (c ∈ cs))) := ⟨_, op_notIn_seq, fun H x y Q a b q => by
  obtain ⟨p, xs, rfl, e, r, _⟩ := b
  rw [r.ints] at e
  rw [kI_eq a]
  refine ⟨p, _, rfl, .inl (SqL.of e), rfl, flat_ints cs, ?_⟩
  rw [inV_int]
  exact q _ H (Xt.refl H) kB_of⟩
def hasK (kvs : List (Key × V)) (c : Int) : Bool := (valV kvs (Sum.inl c)).isSome
theorem op_inD (hu : X.A.units + 1 < cLine) : OpR X (compareOp .In) (fun y x H Q => ∃ a o, x = .ref a ∧ DGet H a y o ∧ Q (.bl o.isSome) H) := by
  intro pins s σ H y x u v Q I ry rx h
  obtain ⟨a, o, rfl, g, q⟩ := h
  cases rx
  exact d_in hu I g ry fun s' I' => ⟨.bl _, H, I', rfl, q⟩
theorem op_notInD (hu : X.A.units + 1 < cLine) : OpR X (compareOp .NotIn) (fun y x H Q => ∃ a o, x = .ref a ∧ DGet H a y o ∧ Q (.bl (!o.isSome)) H) := by
  intro pins s σ H y x u v Q I ry rx h
  obtain ⟨a, o, rfl, g, q⟩ := h
  cases rx
  exact d_notIn hu I g ry fun s' I' => ⟨.bl _, H, I', rfl, q⟩
theorem ok_inD {c : Int} {kvs : List (Key × V)} (hu : X.A.units + 1 < cLine) : OpK M (compareOp .In) X (kI c) (kK M kvs) (kB (hasK kvs c)) := ⟨_, op_inD hu, fun H x y Q a b q => by
  obtain ⟨p, rfl, e, _⟩ := b
  rw [kI_eq a]
  exact ⟨p, _, rfl, .inl ⟨kvs, Sum.inl c, e, rfl, rfl⟩, q _ H (Xt.refl H) kB_of⟩⟩
theorem ok_notInD {c : Int} {kvs : List (Key × V)} (hu : X.A.units + 1 < cLine) : OpK M (compareOp .NotIn) X (kI c) (kK M kvs) (kB (!hasK kvs c)) := ⟨_, op_notInD hu, fun H x y Q a b q => by
  obtain ⟨p, rfl, e, _⟩ := b
  rw [kI_eq a]
  exact ⟨p, _, rfl, .inl ⟨kvs, Sum.inl c, e, rfl, rfl⟩, q _ H (Xt.refl H) kB_of⟩⟩
/-! ### tuples: +, items, slices -/
theorem ok_cat {ds es : List PyData} (hl : ds.length + es.length ≤ 1000000) : OpK M (binaryOp .Add) X (kD (.tuple ds)) (kD (.tuple es)) (kD (.tuple (ds ++ es))) := ⟨_, op_catA, fun H x y Q a b q => by
  obtain ⟨p, xs, rfl, e, r⟩ := rp_tup a
  obtain ⟨p2, ys, rfl, e2, r2⟩ := rp_tup b
  have l1 := r.length
  have l2 := r2.length
  refine ⟨p, p2, xs, ys, rfl, rfl, SqT.of e, SqT.of e2, Nat.le_trans (by omega) (show 1000000 ≤ sizeLine by decide), fun h => ?_, fun h h2 => ?_, fun h h2 z hz => ?_⟩
  · subst h
    cases r
    exact q _ H (Xt.refl H) (Rp.tup e2 r2)
  · subst h2
    cases r2
    rw [List.append_nil] at q
    exact q _ H (Xt.refl H) (Rp.tup e r)
  · exact q _ _ (Xt.new hz) (Rp.tup upd_same (RpL.tm (Xt.new (M := M) hz).tm _ (r.app r2)))⟩
abbrev IxK (M : Md) (X : Cx) (Ka Kb K : Kn) : Prop := ∃ r : R2, IxR X r ∧ ∀ H x y (Q : VK), Ka H x → Kb H y → (∀ v H', Xt M H H' → K H' v → Q v H') → r x y H Q
theorem rpl_atI {H : Hp} {vs : List V} {ds : List PyData} {i : Int} {d : PyData} (r : RpL H vs ds) (h : atI ds i = some d) : ∃ v, atI vs i = some v ∧ Rp H v d := by
  unfold atI at h ⊢
  rw [r.length]
  cases e : ixN ds.length i with
  | none => rw [e] at h; cases h
  | some j =>
    rw [e] at h
    exact r.get h
theorem ix_t {ds : List PyData} {i : Int} {d : PyData} (h : atI ds i = some d) : IxK M X (kD (.tuple ds)) (kI i) (kD d) := ⟨_, ix_tup, fun H x y Q a b q => by
  obtain ⟨p, xs, rfl, e, r⟩ := rp_tup a
  obtain ⟨v, h1, h2⟩ := rpl_atI r h
  exact ⟨p, xs, i, v, rfl, kI_eq b, SqT.of e, h1, q v H (Xt.refl H) h2⟩⟩
theorem ix_l {ds : List PyData} {i : Int} {d : PyData} (h : atI ds i = some d) : IxK M X (kL M ds) (kI i) (kD d) := ⟨_, ix_list, fun H x y Q a b q => by
  obtain ⟨p, xs, rfl, e, r, _⟩ := a
  obtain ⟨v, h1, h2⟩ := rpl_atI r h
  exact ⟨p, xs, i, v, rfl, kI_eq b, SqL.of e, h1, q v H (Xt.refl H) h2⟩⟩
theorem atI_nn {α : Type} {xs : List α} {i : Int} {v : α} (h0 : 0 ≤ i) (h : xs[i.toNat]? = some v) : atI xs i = some v := by
  have e : i = (i.toNat : Int) := by omega
  rw [e]
  exact atI_nat h
theorem atI_end {α : Type} {xs : List α} {v : α} (h : xs.getLast? = some v) : atI xs (-1) = some v := by
  have h0 : xs ≠ [] := fun z => by subst z; simp at h
  have e := List.dropLast_concat_getLast h0
  rw [List.getLast?_eq_some_getLast h0] at h
  rw [← e, Option.some.inj h]
  exact atI_last _ _
end
section
variable {M : Md} {X : Cx} {e a b c : Expr} {es rest : List Expr} {σ : L2.St} {H H' : Hp} {K K' Ka Kb : Kn} {Ks : List Kn} {pos : Pos} {ds : List PyData} {d : PyData}
def cutD (ds : List PyData) (lo hi : Option Int) : List PyData := (ds.drop (HT.sIx ds.length 0 lo)).take (HT.sIx ds.length ds.length hi - HT.sIx ds.length 0 lo)
theorem rpl_cut {vs : List V} (r : RpL H vs ds) (lo hi : Option Int) : RpL H (cutV vs lo hi) (cutD ds lo hi) := by
  unfold cutV cutD
  rw [r.length]
  exact (r.drop _).take _
theorem cut_whole {α : Type} (xs : List α) {n d : Nat} (h0 : n = 0) (h1 : d = xs.length) : (xs.drop n).take (d - n) = xs := by
  subst h0 h1
  simp
/-- t[lo:hi] of a tuple; a part left out is none -/
theorem j_cut {lo hi : Option Expr} {l u : Option Int} {p2 : Pos} (h : JK M X a σ H (kD (.tuple ds))) (hl : ∀ H1, Xt M H H1 → ∀ Q : Option Int → Hp → Prop, (∀ H2, Xt M H1 H2 → Q l H2) → ∃ t, PO X lo t ∧ t σ H1 Q)
    (hlo : (lo = none ∧ l = none) ∨ (∃ e i, lo = some e ∧ l = some i ∧ JK M X e σ H (kI i))) (hhi : (hi = none ∧ u = none) ∨ (∃ e i, hi = some e ∧ u = some i ∧ JK M X e σ H (kI i))) :
    JK M X (.Subscript a (.Slice lo hi none p2) pos) σ H (kD (.tuple (cutD ds l u))) := by
  intro H1 x Q q
  have part : ∀ {o : Option Expr} {w : Option Int}, ((o = none ∧ w = none) ∨ (∃ e i, o = some e ∧ w = some i ∧ JK M X e σ H (kI i))) → ∃ t : TO, PO X o t ∧ ∀ H1, Xt M H H1 → ∀ Q : Option Int → Hp → Prop, (∀ H2, Xt M H1 H2 → Q w H2) → t σ H1 Q := by
    intro o w ho
    rcases ho with ⟨rfl, rfl⟩ | ⟨e, i, rfl, rfl, j⟩
    · exact ⟨_, po_none, fun H1 _ Q q => q H1 (Xt.refl H1)⟩
    · exact ⟨_, po_some pe_we, fun H1 x Q q => j H1 x _ fun v H2 y k => ⟨i, kI_eq k, q H2 y⟩⟩
  obtain ⟨tl, pl, ql⟩ := part hlo
  obtain ⟨tu, pu, qu⟩ := part hhi
  refine we_of (pe_slice sl_tupA pe_we pl pu) (h H1 x _ fun v H2 y k => ql H2 (x.trans y) _ fun H3 z => qu H3 ((x.trans y).trans z) _ fun H4 t => ?_)
  have k4 : kD (.tuple ds) H4 v := Mn.mono (z.trans t) k
  obtain ⟨p, xs, rfl, e, r⟩ := rp_tup k4
  refine ⟨p, xs, rfl, SqT.of e, fun w => ?_, fun w p' hp => ?_⟩
  · refine q _ H4 ((y.trans z).trans t) ?_
    have e2 : cutD ds l u = ds := by
      unfold cutD
      rw [← r.length]
      exact cut_whole ds w.1 (by rw [w.2, r.length])
    rw [e2]
    exact k4
  · exact q _ _ (((y.trans z).trans t).trans (Xt.new hp)) (Rp.tup upd_same (RpL.tm (Xt.new (M := M) hp).tm _ (rpl_cut r l u)))
theorem cut_from (k : Nat) : cutD ds (some (k : Int)) none = ds.drop k := by
  unfold cutD
  rw [HT.sIx_nat, HT.sIx_none]
  by_cases h : k ≤ ds.length
  · rw [Nat.min_eq_left h]
    exact List.take_of_length_le (by simp)
  · rw [Nat.min_eq_right (by omega), Nat.sub_self, List.take_zero, List.drop_of_length_le (by omega)]
theorem cut_to (k : Nat) : cutD ds none (some (k : Int)) = ds.take k := by
  unfold cutD
  rw [HT.sIx_nat, HT.sIx_none, Nat.sub_zero, List.drop_zero]
  by_cases h : k ≤ ds.length
  · rw [Nat.min_eq_left h]
  · rw [Nat.min_eq_right (by omega), List.take_of_length_le (by omega), List.take_of_length_le (by omega)]
theorem j_cutFrom {eb : Expr} {p2 : Pos} {k : Nat} (h : JK M X a σ H (kD (.tuple ds))) (hb : JK M X eb σ H (kI (k : Int))) : JK M X (.Subscript a (.Slice (some eb) none none p2) pos) σ H (kD (.tuple (ds.drop k))) := by
  rw [← cut_from k]
  exact j_cut h (fun H1 x Q q => ⟨_, po_some pe_we, hb H1 x _ fun v H2 y kk => ⟨_, kI_eq kk, q H2 y⟩⟩) (.inr ⟨eb, _, rfl, rfl, hb⟩) (.inl ⟨rfl, rfl⟩)
theorem j_cutTo {eb : Expr} {p2 : Pos} {k : Nat} (h : JK M X a σ H (kD (.tuple ds))) (hb : JK M X eb σ H (kI (k : Int))) : JK M X (.Subscript a (.Slice none (some eb) none p2) pos) σ H (kD (.tuple (ds.take k))) := by
  rw [← cut_to k]
  exact j_cut h (fun H1 x Q q => ⟨_, po_none, q H1 (Xt.refl H1)⟩) (.inl ⟨rfl, rfl⟩) (.inr ⟨eb, _, rfl, rfl, hb⟩)
/-! ### built-ins called -/
abbrev CallK (M : Md) (X : Cx) (f : Value) (Ks : List Kn) (K : Kn) : Prop := ∃ r, CallR X f r ∧ ∀ H vs (Q : VK), KAll Ks H vs → (∀ v H', Xt M H H' → K H' v → Q v H') → r vs H Q
abbrev CallL (M : Md) (X : Cx) (f : Value) (Ks : List Kn) (ds : List PyData) : Prop := ∃ r, CallR X f r ∧ ∀ H vs (Q : VK), KAll Ks H vs → (∀ p xs H', H p = none → Xt M H H' → H' p = some (.lst xs) → RpL H' xs ds → Q (.ref p) H') → r vs H Q
theorem j_callB {x : Str} {id : String} {p : Pos} (o : CallK M X (.builtin id) Ks K) (hg : Gl X x) (hm : X.mg x = none) (hv : bootBuiltins x = some (.builtin id)) (ha : JA M X (e :: es) σ H Ks) (hn : x ≠ "__name__" := by decide) (hdb : (x == ("__debug__" : Str)) = false := by decide)
    (he : starEach (e :: es) X.env = (false, eval e X.env) :: starEach es X.env := by rfl) (hpl : (backTo pos (starEach es X.env)).any (·.1) = false := by rfl) : JK M X (.Call (.Name x p) (e :: es) [] pos) σ H K := fun H1 y Q q => by
  obtain ⟨r, hc, h⟩ := o
  exact we_of (pe_callB hc hg hm hv pa_wa hn hdb he hpl) (ha H1 y _ fun vs H2 z k => h H2 vs Q k fun v H3 t kv => q v H3 (z.trans t) kv)
theorem j_callTy {x : Str} {T : String} {p : Pos} (o : CallK M X (.type T) Ks K) (hg : Gl X x) (hm : X.mg x = none) (hv : bootBuiltins x = some (.type T)) (ha : JA M X (e :: es) σ H Ks) (hn : x ≠ "__name__" := by decide) (hdb : (x == ("__debug__" : Str)) = false := by decide)
    (he : starEach (e :: es) X.env = (false, eval e X.env) :: starEach es X.env := by rfl) (hpl : (backTo pos (starEach es X.env)).any (·.1) = false := by rfl) : JK M X (.Call (.Name x p) (e :: es) [] pos) σ H K := fun H1 y Q q => by
  obtain ⟨r, hc, h⟩ := o
  exact we_of (pe_callTy hc hg hm hv pa_wa hn hdb he hpl) (ha H1 y _ fun vs H2 z k => h H2 vs Q k fun v H3 t kv => q v H3 (z.trans t) kv)
theorem j_callBL {x : Str} {id : String} {p : Pos} (o : CallL M X (.builtin id) Ks ds) (hg : Gl X x) (hm : X.mg x = none) (hv : bootBuiltins x = some (.builtin id)) (ha : JA M X (e :: es) σ H Ks) (hn : x ≠ "__name__" := by decide) (hdb : (x == ("__debug__" : Str)) = false := by decide)
    (he : starEach (e :: es) X.env = (false, eval e X.env) :: starEach es X.env := by rfl) (hpl : (backTo pos (starEach es X.env)).any (·.1) = false := by rfl) : JL M X (.Call (.Name x p) (e :: es) [] pos) σ H ds := fun H1 y Q q => by
  obtain ⟨r, hc, h⟩ := o
  exact we_of (pe_callB hc hg hm hv pa_wa hn hdb he hpl) (ha H1 y _ fun vs H2 z k => h H2 vs Q k fun p xs H3 n t e r => q p xs H3 (z.free p n) (z.trans t) e r)
theorem j_callTyL {x : Str} {T : String} {p : Pos} (o : CallL M X (.type T) Ks ds) (hg : Gl X x) (hm : X.mg x = none) (hv : bootBuiltins x = some (.type T)) (ha : JA M X (e :: es) σ H Ks) (hn : x ≠ "__name__" := by decide) (hdb : (x == ("__debug__" : Str)) = false := by decide)
    (he : starEach (e :: es) X.env = (false, eval e X.env) :: starEach es X.env := by rfl) (hpl : (backTo pos (starEach es X.env)).any (·.1) = false := by rfl) : JL M X (.Call (.Name x p) (e :: es) [] pos) σ H ds := fun H1 y Q q => by
  obtain ⟨r, hc, h⟩ := o
  exact we_of (pe_callTy hc hg hm hv pa_wa hn hdb he hpl) (ha H1 y _ fun vs H2 z k => h H2 vs Q k fun p xs H3 n t e r => q p xs H3 (z.free p n) (z.trans t) e r)
theorem k1 {K : Kn} {H : Hp} {vs : List V} (h : KAll [K] H vs) : ∃ v, vs = [v] ∧ K H v := by
  obtain ⟨v, r, rfl, k, rfl⟩ := h
  exact ⟨v, rfl, k⟩
theorem k2 {K K2 : Kn} {H : Hp} {vs : List V} (h : KAll [K, K2] H vs) : ∃ v w, vs = [v, w] ∧ K H v ∧ K2 H w := by
  obtain ⟨v, r, rfl, k, h⟩ := h
  obtain ⟨w, rfl, k2⟩ := k1 h
  exact ⟨v, w, rfl, k, k2⟩
theorem ck_lenT {ds : List PyData} : CallK M X (.builtin "len") [kD (.tuple ds)] (kI (ds.length : Int)) := ⟨_, call_len_seq, fun H vs Q k q => by
  obtain ⟨v, rfl, kv⟩ := k1 k
  obtain ⟨p, xs, rfl, e, r⟩ := rp_tup kv
  refine ⟨p, xs, rfl, .inr (SqT.of e), ?_⟩
  rw [r.length]
  exact q _ H (Xt.refl H) kI_of⟩
theorem ck_lenL {ds : List PyData} : CallK M X (.builtin "len") [kL M ds] (kI (ds.length : Int)) := ⟨_, call_len_seq, fun H vs Q k q => by
  obtain ⟨v, rfl, kv⟩ := k1 k
  obtain ⟨p, xs, rfl, e, r, _⟩ := kv
  refine ⟨p, xs, rfl, .inl (SqL.of e), ?_⟩
  rw [r.length]
  exact q _ H (Xt.refl H) kI_of⟩
theorem ck_listT {ds : List PyData} : CallL M X (.type "list") [kD (.tuple ds)] ds := ⟨_, call_list_of, fun H vs Q k q => by
  obtain ⟨v, rfl, kv⟩ := k1 k
  obtain ⟨p, xs, rfl, e, r⟩ := rp_tup kv
  exact ⟨p, xs, rfl, .inr (SqT.of e), fun l hl => q l xs _ hl (Xt.new hl) upd_same (RpL.tm (Xt.new (M := M) hl).tm _ r)⟩⟩
theorem ck_tupL {ds : List PyData} : CallK M X (.type "tuple") [kL M ds] (kD (.tuple ds)) := ⟨_, call_tuple_of, fun H vs Q k q => by
  obtain ⟨v, rfl, kv⟩ := k1 k
  obtain ⟨p, xs, rfl, e, r, _⟩ := kv
  exact ⟨p, xs, rfl, .inl ⟨SqL.of e, fun l hl => q _ _ (Xt.new hl) (Rp.tup upd_same (RpL.tm (Xt.new (M := M) hl).tm _ r))⟩⟩⟩
theorem ck_sum {ns : List Int} (hc : X.calm = true) : CallK M X (.builtin "sum") [kL M (ns.map .int)] (kI ns.sum) := ⟨_, cr_sum hc, fun H vs Q k q => by
  obtain ⟨v, rfl, kv⟩ := k1 k
  obtain ⟨p, xs, rfl, e, r, _⟩ := kv
  rw [r.ints] at e
  exact ⟨p, ns, rfl, SqL.of e, q _ H (Xt.refl H) kI_of⟩⟩
theorem ck_max {ns : List Int} {m : Int} (hc : X.calm = true) (h0 : 0 < ns.length) (hm : ∀ k, k ∈ ns → (∀ y, y ∈ ns → y ≤ k) → k = m) : CallK M X (.builtin "max") [kL M (ns.map .int)] (kI m) := ⟨_, cr_max hc, fun H vs Q k q => by
  obtain ⟨v, rfl, kv⟩ := k1 k
  obtain ⟨p, xs, rfl, e, r, _⟩ := kv
  rw [r.ints] at e
  exact ⟨p, ns, rfl, SqL.of e, h0, fun m' h1 h2 => by rw [hm m' h1 h2]; exact q _ H (Xt.refl H) kI_of⟩⟩
theorem ck_any {bs : List Bool} (hc : X.calm = true) : CallK M X (.builtin "any") [kL M (bs.map .bool)] (kB (bs.any id)) := ⟨_, cr_any hc, fun H vs Q k q => by
  obtain ⟨v, rfl, kv⟩ := k1 k
  obtain ⟨p, xs, rfl, e, r, _⟩ := kv
  have e2 : ∀ {xs : List V} {bs : List Bool}, RpL H xs (bs.map .bool) → xs = bs.map V.bl := by
    intro xs bs
    induction bs generalizing xs with
    | nil => intro r; rw [List.map_nil] at r; cases r; rfl
    | cons b bs ih =>
      intro r
      rw [List.map_cons] at r
      cases r with
      | cons a c =>
        cases a
        rw [List.map_cons, ← ih c]
  rw [e2 r] at e
  exact ⟨p, bs, rfl, SqL.of e, q _ H (Xt.refl H) kB_of⟩⟩
theorem ck_int {i : Int} : CallK M X (.type "int") [kI i] (kI i) := ⟨_, call_int1, fun H vs Q k q => by
  obtain ⟨v, rfl, kv⟩ := k1 k
  exact .inl ⟨i, by rw [kI_eq kv], q _ H (Xt.refl H) kI_of⟩⟩
theorem ck_min2 {i j : Int} (hc : X.calm = true) : CallK M X (.builtin "min") [kI i, kI j] (kI (if j < i then j else i)) := ⟨_, call_min2 hc, fun H vs Q k q => by
  obtain ⟨v, w, rfl, kv, k'⟩ := k2 k
  exact ⟨i, j, by rw [kI_eq kv, kI_eq k'], q _ H (Xt.refl H) kI_of⟩⟩
/-- what type a datum has -/
def tyD : PyData → String
  | .none => "NoneType"
  | .bool _ => "bool"
  | .int _ => "int"
  | .str _ => "str"
  | .tuple _ => "tuple"
  | .list _ => "list"
  | .dict _ => "dict"
theorem rp_ty {K : PySem.W.Frag} {H : Hp} {v : V} {d : PyData} (h : Rp H v d) : TyX K H v (.type (tyD d)) := by
  cases h with
  | non => exact .base .non
  | bl b => exact .base (.bl b)
  | int i => exact .base (.int i)
  | str x => exact .base (.str x)
  | tup a b => exact .base (.tup a)
theorem ck_isi {d : PyData} {n : String} {b : Bool} (h : kitB (tyD d) n = some b) : CallK M X (.builtin "isinstance") [kD d, kE (.ty n)] (kB b) := ⟨_, call_isi, fun H vs Q k q => by
  obtain ⟨v, w, rfl, kv, k'⟩ := k2 k
  have k' : w = .ty n := k'
  subst k'
  exact ⟨v, .ty n, _, _, b, rfl, .ty n, rp_ty kv, kit_ty h, q _ H (Xt.refl H) kB_of⟩⟩
/-! ### a def called -/
/-- the def x of the module keeps the promise sp -/
def FnK (P : Program) (w : World) (K : PySem.W.Frag) (mg : Str → Option Value) (base : Heap) (x : Str) (ps : List Str) (k : Nat) (sp : Sp) : Prop :=
  ∃ f fd, mg x = some (.ref f) ∧ FnOk P w K mg base CX0 k f fd ps sp ∧ PySem.W.keepIn K (.ref f) = true ∧ Binds K fd ps []
theorem FnK.mono {P : Program} {w : World} {K : PySem.W.Frag} {mg : Str → Option Value} {base : Heap} {x : Str} {ps : List Str} {j k : Nat} {sp : Sp} (F : FnK P w K mg base x ps j sp) (h : j ≤ k) : FnK P w K mg base x ps k sp := by
  obtain ⟨f, fd, a, b, c, d⟩ := F
  exact ⟨f, fd, a, b.mono h, c, d⟩
def RetK (M : Md) (K : Kn) (H : Hp) (Q : VK) : Prop := ∀ v H', Xt M H H' → K H' v → Q v H'
def RetL (M : Md) (ds : List PyData) (H : Hp) (Q : VK) : Prop := ∀ p xs H', H p = none → Xt M H H' → H' p = some (.lst xs) → RpL H' xs ds → Q (.ref p) H'
theorem RetK.pure {Q : VK} (h : RetK M K H Q) : RetK M0 K H Q := fun v H' x k => h v H' x.lift k
theorem RetL.pure {Q : VK} (h : RetL M ds H Q) : RetL M0 ds H Q := fun p xs H' n x e r => h p xs H' n x.lift e r
theorem we_call {x : Str} {ps : List Str} {k : Nat} {sp : Sp} {p : Pos} {Q : VK} {Ks : List Kn} (F : FnK X.prog X.w X.K X.mg X.base x ps k sp) (hr : Room k X.A) (hg : Gl X x) (ha : JA M X (e :: es) σ H Ks) (h : ∀ vs H2, Xt M H H2 → KAll Ks H2 vs → sp vs H2 Q E0)
    (hdb : (x == ("__debug__" : Str)) = false := by decide) (he : starEach (e :: es) X.env = (false, eval e X.env) :: starEach es X.env := by rfl) (hpl : (backTo pos (starEach es X.env)).any (·.1) = false := by rfl) : WE X (.Call (.Name x p) (e :: es) [] pos) σ H Q := by
  obtain ⟨f, fd, hm, F, hk, hb⟩ := F
  refine we_of (pe_call F hr hg hm hk hb .nil pass0 pa_wa hdb he hpl) (ha H (Xt.refl H) _ fun vs H2 y k => ?_)
  show sp (vs ++ []) H2 Q E0
  rw [List.append_nil]
  exact h vs H2 y k
theorem j_call {x : Str} {ps : List Str} {k : Nat} {sp : Sp} {p : Pos} (F : FnK X.prog X.w X.K X.mg X.base x ps k sp) (hr : Room k X.A) (hg : Gl X x) (ha : JA M X (e :: es) σ H Ks) (h : ∀ vs H2 Q, Xt M H H2 → KAll Ks H2 vs → RetK M K H2 Q → sp vs H2 Q E0)
    (hdb : (x == ("__debug__" : Str)) = false := by decide) (he : starEach (e :: es) X.env = (false, eval e X.env) :: starEach es X.env := by rfl) (hpl : (backTo pos (starEach es X.env)).any (·.1) = false := by rfl) : JK M X (.Call (.Name x p) (e :: es) [] pos) σ H K := fun H1 y Q q =>
  we_call F hr hg (ha.up y) (fun vs H2 z k => h vs H2 Q (y.trans z) k fun v H3 t kv => q v H3 (z.trans t) kv) hdb he hpl
theorem j_callL {x : Str} {ps : List Str} {k : Nat} {sp : Sp} {p : Pos} (F : FnK X.prog X.w X.K X.mg X.base x ps k sp) (hr : Room k X.A) (hg : Gl X x) (ha : JA M X (e :: es) σ H Ks) (h : ∀ vs H2 Q, Xt M H H2 → KAll Ks H2 vs → RetL M ds H2 Q → sp vs H2 Q E0)
    (hdb : (x == ("__debug__" : Str)) = false := by decide) (he : starEach (e :: es) X.env = (false, eval e X.env) :: starEach es X.env := by rfl) (hpl : (backTo pos (starEach es X.env)).any (·.1) = false := by rfl) : JL M X (.Call (.Name x p) (e :: es) [] pos) σ H ds := fun H1 y Q q =>
  we_call F hr hg (ha.up y) (fun vs H2 z k => h vs H2 Q (y.trans z) k fun p xs H3 n t ex r => q p xs H3 (z.free p n) (z.trans t) ex r) hdb he hpl
end
end K68

set_option Elab.async false
set_option linter.all false
set_option maxRecDepth 100000
set_option maxHeartbeats 1000000
/-! K68, text A3: statements, loops, comprehensions. -/
namespace K68
open PySem PySem.Spec L2
open PyProof.Rows hiding St
section
variable {M : Md} {X : Cx} {e a b c : Expr} {es : List Expr} {rest body orelse : List Stmt} {st : Stmt} {σ : L2.St} {H H' : Hp} {K : Kn} {Ks : List Kn} {pos : Pos} {ds : List PyData} {d : PyData} {D : Ends}
theorem s_cons (h : WS X st { D with nx := WSs X rest D } σ H) : WSs X (st :: rest) D σ H := wss_of (pss_cons ps_ws pss_wss) h
theorem s_nil (h : D.nx σ H) : WSs X [] D σ H := wss_of pss_nil h
theorem s_asg (i : Nat) {x : Str} {p : Pos} (nd : X.N.Nodup) (h : JK M X e σ H K) (k : ∀ v H1, Xt M H H1 → K H1 v → WSs X rest D (σ.set i (some v)) H1) (hi : X.N[i]? = some x := by rfl) (hx : Loc X.env.scope x := by first | exact Or.inl rfl | exact Or.inr rfl)
    (hs : swapsWith e (some (.Name x p)) pos.line X.env = pure false := by rfl) (hf : X.fn x = true ∨ X.env.scope.names.lookup x = some .local := by first | exact Or.inl rfl | exact Or.inr rfl) : WSs X (.Assign [.Name x p] e pos :: rest) D σ H :=
  s_cons (ws_of (ps_set nd hi hx pe_we hs hf) (h H (Xt.refl H) _ fun v H1 y kv => k v H1 y kv))
theorem s_asgL (i : Nat) {x : Str} {p : Pos} (nd : X.N.Nodup) (h : JL M X e σ H ds) (k : ∀ q xs H1, H q = none → Xt M H H1 → H1 q = some (.lst xs) → RpL H1 xs ds → WSs X rest D (σ.set i (some (.ref q))) H1) (hi : X.N[i]? = some x := by rfl) (hx : Loc X.env.scope x := by first | exact Or.inl rfl | exact Or.inr rfl)
    (hs : swapsWith e (some (.Name x p)) pos.line X.env = pure false := by rfl) (hf : X.fn x = true ∨ X.env.scope.names.lookup x = some .local := by first | exact Or.inl rfl | exact Or.inr rfl) : WSs X (.Assign [.Name x p] e pos :: rest) D σ H :=
  s_cons (ws_of (ps_set nd hi hx pe_we hs hf) (h H (Xt.refl H) _ fun q xs H1 n y ex r => k q xs H1 n y ex r))
theorem s_asgDK (i : Nat) {x : Str} {p : Pos} {kvs : List (Key × V)} (nd : X.N.Nodup) (h : JDK M X e σ H kvs) (k : ∀ q H1, H q = none → Xt M H H1 → H1 q = some (.dK kvs) → WSs X rest D (σ.set i (some (.ref q))) H1) (hi : X.N[i]? = some x := by rfl) (hx : Loc X.env.scope x := by first | exact Or.inl rfl | exact Or.inr rfl)
    (hs : swapsWith e (some (.Name x p)) pos.line X.env = pure false := by rfl) (hf : X.fn x = true ∨ X.env.scope.names.lookup x = some .local := by first | exact Or.inl rfl | exact Or.inr rfl) : WSs X (.Assign [.Name x p] e pos :: rest) D σ H :=
  s_cons (ws_of (ps_set nd hi hx pe_we hs hf) (h H (Xt.refl H) _ fun q H1 n y ex => k q H1 n y ex))
theorem s_ret (h : JK M X e σ H K) (k : ∀ v H1, Xt M H H1 → K H1 v → D.rt v H1) : WSs X (.Return (some e) pos :: rest) D σ H :=
  s_cons (ws_of (ps_ret pe_we) (h H (Xt.refl H) _ fun v H1 y kv => k v H1 y kv))
theorem s_retL (h : JL M X e σ H ds) (k : ∀ q xs H1, H q = none → Xt M H H1 → H1 q = some (.lst xs) → RpL H1 xs ds → D.rt (.ref q) H1) : WSs X (.Return (some e) pos :: rest) D σ H :=
  s_cons (ws_of (ps_ret pe_we) (h H (Xt.refl H) _ fun q xs H1 n y ex r => k q xs H1 n y ex r))
theorem s_retDK {kvs : List (Key × V)} (h : JDK M X e σ H kvs) (k : ∀ q H1, H q = none → Xt M H H1 → H1 q = some (.dK kvs) → D.rt (.ref q) H1) : WSs X (.Return (some e) pos :: rest) D σ H :=
  s_cons (ws_of (ps_ret pe_we) (h H (Xt.refl H) _ fun q H1 n y ex => k q H1 n y ex))
theorem s_if {t : Bool} (hc : JT M X c σ H t) (h1 : t = true → ∀ H1, Xt M H H1 → WSs X body { D with nx := WSs X rest D } σ H1) (h2 : t = false → ∀ H1, Xt M H H1 → WSs X orelse { D with nx := WSs X rest D } σ H1) : WSs X (.If c body orelse pos :: rest) D σ H :=
  s_cons (ws_of (ps_if pt_wt pss_wss pss_wss) (hc H (Xt.refl H) _ fun H1 y => by
    cases t with
    | true => exact h1 rfl H1 y
    | false => exact h2 rfl H1 y))
theorem s_when {t : Bool} (hc : JT M X c σ H t) (h1 : t = true → ∀ H1, Xt M H H1 → WSs X body { D with nx := WSs X rest D } σ H1) (h2 : t = false → ∀ H1, Xt M H H1 → WSs X rest D σ H1) : WSs X (.If c body [] pos :: rest) D σ H :=
  s_if hc h1 fun z H1 y => s_nil (h2 z H1 y)
theorem s_cont (h : D.ct σ H) : WSs X (.Continue pos :: rest) D σ H := s_cons (ws_of ps_continue h)
/-- x.append(e), x.extend(e) of a list of the def's own -/
theorem s_append (i : Nat) [Mn M K] {x : Str} {p ap cp : Pos} {l : Addr} {xs : List V} (hs : σ[i]? = some (some (.ref l))) (hl : H l = some (.lst xs)) (h : JK M X e σ H K) (hz : xs.length < 1000000) (hm : ¬ M.m l := by first | exact id | assumption) (k : ∀ v H1, Xt M H H1 → K H1 v → H1 l = some (.lst xs) → WSs X rest D σ (upd H1 l (.lst (xs ++ [v]))))
    (hN : X.N[i]? = some x := by rfl) (hv : Vis X.env.scope x := by first | exact Or.inl rfl | exact Or.inr (Or.inl rfl) | exact Or.inr (Or.inr rfl)) (hd : (x == ("__debug__" : Str)) = false := by decide) (hcd : (x == ("__classdict__" : Str)) = false := by decide)
    (hst : starEach [e] X.env = (false, eval e X.env) :: starEach [] X.env := by rfl) (hb : attributeBase (.Name x p) "append" X.env (eval (.Name x p) X.env) = eval (.Name x p) X.env := by rfl) (hpl : (backTo cp (starEach [] X.env)).any (·.1) = false := by rfl)
    (hsw : swapsWith (.Call (.Attribute (.Name x p) "append" ap) [e] [] cp) none pos.line X.env = pure false := by rfl)
    (hpe : ∀ (to : TE) (t : TA), PE X (.Name x p) to → PA X [e] t → PE X (.Call (.Attribute (.Name x p) "append" ap) [e] [] cp) (tBM X.K "list" rAppend to t) := by exact fun to t h1 h2 => pe_bm PySem.F.plainAttrs_list PySem.F.slot_list_append PySem.F.type_list_append mt_append h1 h2) :
    WSs X (.Expr (.Call (.Attribute (.Name x p) "append" ap) [e] [] cp) pos :: rest) D σ H := by
  refine s_cons (ws_of (ps_expr (hpe _ _ (pe_var hN hv hd hcd) pa_wa) hsw) ⟨.ref l, hs, .inl ⟨rfl, _, SqL.of hl⟩, ja_cons h ja_nil hst H (Xt.refl H) _ fun vs H1 y kv => ?_⟩)
  obtain ⟨v, rfl, kw⟩ := k1 kv
  have hl1 := y.keep _ _ hl (nt_lst xs) hm
  exact ⟨l, xs, v, rfl, rfl, hl1, Nat.lt_of_lt_of_le hz (by decide), k v H1 y kw hl1⟩
theorem s_extend (i : Nat) {x : Str} {p ap cp : Pos} {l : Addr} {xs : List V} (hs : σ[i]? = some (some (.ref l))) (hl : H l = some (.lst xs)) (h : JK M X e σ H (kL M ds)) (hz : xs.length + ds.length ≤ 1000000) (hm : ¬ M.m l := by first | exact id | assumption) (k : ∀ ys H1, Xt M H H1 → RpL H1 ys ds → H1 l = some (.lst xs) → WSs X rest D σ (upd H1 l (.lst (xs ++ ys))))
    (hN : X.N[i]? = some x := by rfl) (hv : Vis X.env.scope x := by first | exact Or.inl rfl | exact Or.inr (Or.inl rfl) | exact Or.inr (Or.inr rfl)) (hd : (x == ("__debug__" : Str)) = false := by decide) (hcd : (x == ("__classdict__" : Str)) = false := by decide)
    (hst : starEach [e] X.env = (false, eval e X.env) :: starEach [] X.env := by rfl)
    (hsw : swapsWith (.Call (.Attribute (.Name x p) "extend" ap) [e] [] cp) none pos.line X.env = pure false := by rfl)
    (hpe : ∀ (to : TE) (t : TA), PE X (.Name x p) to → PA X [e] t → PE X (.Call (.Attribute (.Name x p) "extend" ap) [e] [] cp) (tBM X.K "list" rExtend to t) := by exact fun to t h1 h2 => pe_bm PySem.F.plainAttrs_list PySem.F.slot_list_extend PySem.F.type_list_extend mt_extend h1 h2) :
    WSs X (.Expr (.Call (.Attribute (.Name x p) "extend" ap) [e] [] cp) pos :: rest) D σ H := by
  refine s_cons (ws_of (ps_expr (hpe _ _ (pe_var hN hv hd hcd) pa_wa) hsw) ⟨.ref l, hs, .inl ⟨rfl, _, SqL.of hl⟩, ja_cons h ja_nil hst H (Xt.refl H) _ fun vs H1 y kv => ?_⟩)
  obtain ⟨v, rfl, kw⟩ := k1 kv
  obtain ⟨q, ys, rfl, ey, ry, _⟩ := kw
  have hl1 := y.keep _ _ hl (nt_lst xs) hm
  exact ⟨l, q, xs, ys, rfl, rfl, hl1, ey, Nat.le_trans (by rw [ry.length]; exact hz) (show 1000000 ≤ sizeLine by decide), k ys H1 y ry hl1⟩
/-- y = x.pop() -/
theorem s_pop (i j : Nat) {x y : Str} {p p2 ap cp : Pos} {l : Addr} {xs : List V} {v : V} (nd : X.N.Nodup) (hs : σ[i]? = some (some (.ref l))) (hl : H l = some (.lst xs)) (hx : xs[xs.length - 1]? = some v) (k : WSs X rest D (σ.set j (some v)) (upd H l (.lst xs.dropLast)))
    (hN : X.N[i]? = some x := by rfl) (hv : Vis X.env.scope x := by first | exact Or.inl rfl | exact Or.inr (Or.inl rfl) | exact Or.inr (Or.inr rfl)) (hd : (x == ("__debug__" : Str)) = false := by decide) (hcd : (x == ("__classdict__" : Str)) = false := by decide)
    (hj : X.N[j]? = some y := by rfl) (hy : Loc X.env.scope y := by first | exact Or.inl rfl | exact Or.inr rfl) (hf : X.fn y = true ∨ X.env.scope.names.lookup y = some .local := by first | exact Or.inl rfl | exact Or.inr rfl)
    (hsw : swapsWith (.Call (.Attribute (.Name x p) "pop" ap) [] [] cp) (some (.Name y p2)) pos.line X.env = pure false := by rfl)
    (hpe : ∀ (to : TE), PE X (.Name x p) to → PE X (.Call (.Attribute (.Name x p) "pop" ap) [] [] cp) (tBM0 X.K "list" rPop to) := by exact fun to h1 => pe_bm0 PySem.F.plainAttrs_list PySem.F.slot_list_pop PySem.F.type_list_pop mt_pop h1) :
    WSs X (.Assign [.Name y p2] (.Call (.Attribute (.Name x p) "pop" ap) [] [] cp) pos :: rest) D σ H :=
  s_cons (ws_of (ps_set nd hj hy (hpe _ (pe_var hN hv hd hcd)) hsw hf) ⟨.ref l, hs, .inl ⟨rfl, _, SqL.of hl⟩, l, xs, v, rfl, rfl, hl, hx, k⟩)

/-! ### what is walked -/
structure ItOk (M : Md) (J : It) (Kp : Hp → Prop) (ds : List PyData) : Prop where
  goes : ∀ i H, Kp H → i < ds.length → J.go i H
  stops : ∀ H, Kp H → J.stop ds.length H
  yld : ∀ i H x H', Kp H → i < ds.length → J.yld i H x H' → H' = H ∧ ∃ d, ds[i]? = some d ∧ Rp H x d
  up : ∀ H H', Xt M H H' → Kp H → Kp H'
def KpT (a : Addr) (xs : List V) (ds : List PyData) : Hp → Prop := fun H => H a = some (.tup xs) ∧ RpL H xs ds
def KpL (a : Addr) (xs : List V) (ds : List PyData) : Hp → Prop := fun H => H a = some (.lst xs) ∧ RpL H xs ds
theorem KpT.tm {p : Addr} {xs : List V} (t : Tm H H') (h : KpT p xs ds H) : KpT p xs ds H' := ⟨t _ _ h.1, RpL.tm t _ h.2⟩
theorem KpL.up {p : Addr} {xs : List V} (t : Xt M H H') (hm : ¬ M.m p) (h : KpL p xs ds H) : KpL p xs ds H' := ⟨t.keep _ _ h.1 (nt_lst xs) hm, RpL.tm t.tm _ h.2⟩
theorem it_tup {K : PySem.W.Frag} {a : Addr} {xs : List V} : ItOk M (Itt K a) (KpT a xs ds) ds where
  goes := fun i H k hi => by
    have hi' : i < xs.length := by rw [k.2.length]; exact hi
    exact ⟨xs, xs[i], SqT.of k.1, by simp [hi']⟩
  stops := fun H k => ⟨xs, SqT.of k.1, by rw [k.2.length]; exact Nat.le_refl _⟩
  yld := fun i H x H' k hi y => ⟨y.1, k.2.at (y.2 xs (SqT.of k.1))⟩
  up := fun H H' x k => k.tm x.tm
theorem it_lst {K : PySem.W.Frag} {a : Addr} {xs : List V} (hm : ¬ M.m a) : ItOk M (Itl K a) (KpL a xs ds) ds where
  goes := fun i H k hi => by
    have hi' : i < xs.length := by rw [k.2.length]; exact hi
    exact ⟨xs, xs[i], SqL.of k.1, by simp [hi']⟩
  stops := fun H k => ⟨xs, SqL.of k.1, by rw [k.2.length]; exact Nat.le_refl _⟩
  yld := fun i H x H' k hi y => ⟨y.1, k.2.at (y.2 xs (SqL.of k.1))⟩
  up := fun H H' x k => k.up x hm
def rangeD (n : Nat) : List PyData := (List.range n).map fun (i : Nat) => PyData.int (i : Int)
theorem rangeD_at {n i : Nat} (h : i < n) : (rangeD n)[i]? = some (.int (i : Int)) := by
  unfold rangeD
  rw [List.getElem?_map, List.getElem?_range h]
  rfl
theorem rangeD_len (n : Nat) : (rangeD n).length = n := by simp [rangeD]
theorem it_rng {n : Nat} : ItOk M (Itr 0 n) (fun _ => True) (rangeD n) where
  goes := fun i H _ hi => by rw [rangeD_len] at hi; exact hi
  stops := fun H _ => by rw [rangeD_len]; exact Nat.le_refl n
  yld := fun i H x H' _ hi y => by
    rw [rangeD_len] at hi
    obtain ⟨rfl, rfl⟩ := y
    refine ⟨rfl, _, rangeD_at hi, ?_⟩
    rw [Int.zero_add]
    exact Rp.int _
  up := fun _ _ _ _ => trivial
/-- the walked thing: these data, come what may as long as Kp stands; stable: whatever changes but tuples -/
def JI (M : Md) (X : Cx) (tg it : Expr) (σ : L2.St) (H : Hp) (ds : List PyData) : Prop := ∀ H0, Xt M H H0 → ∀ R : It → Hp → Prop, (∀ J Kp H1, Xt M H0 H1 → ItOk M J Kp ds → Kp H1 → (∀ H H', Tm H H' → Kp H → Kp H') → R J H1) → WI X tg it σ H0 R
/-- a list: that very list -/
def JIL (M : Md) (X : Cx) (tg it : Expr) (σ : L2.St) (H : Hp) (ds : List PyData) : Prop := ∀ H0, Xt M H H0 → ∀ R : It → Hp → Prop, (∀ J p xs H1, Xt M H0 H1 → ItOk M J (KpL p xs ds) ds → KpL p xs ds H1 → R J H1) → WI X tg it σ H0 R
theorem ji_tup {tg : Expr} (h : JK M X e σ H (kD (.tuple ds))) : JI M X tg e σ H ds := fun H0 x R q =>
  wi_of (pi_tup pe_we) (h H0 x _ fun v H1 y k => by
    obtain ⟨p, xs, rfl, ex, r⟩ := rp_tup k
    exact ⟨p, rfl, ⟨xs, SqT.of ex⟩, q _ _ H1 y it_tup ⟨ex, r⟩ fun H H' t k => k.tm t⟩)
theorem jil_of {tg : Expr} (h : JK M X e σ H (kL M ds)) : JIL M X tg e σ H ds := fun H0 x R q =>
  wi_of (pi_list pe_we) (h H0 x _ fun v H1 y k => by
    obtain ⟨p, xs, rfl, ex, r, hm⟩ := k
    exact ⟨p, rfl, ⟨xs, SqL.of ex⟩, q _ p xs H1 y (it_lst hm) ⟨ex, r⟩⟩)
theorem ji_rng {tg : Expr} {p : Pos} {n : Nat} (hg : Gl X "range") (hm : X.mg "range" = none) (h : JK M X a σ H (kI (n : Int))) (hn : n ≤ 1000000) (hs : starEach [a] X.env = [(false, eval a X.env)] := by rfl) : JI M X tg (.Call (.Name "range" p) [a] [] pos) σ H (rangeD n) := fun H0 x R q =>
  wi_of (pi_range1 hg hm pa_wa hs) (ja_cons h ja_nil (by rw [hs]; rfl) H0 x _ fun vs H1 y k => by
    obtain ⟨v, rfl, kv⟩ := k1 k
    refine ⟨(n : Int), by rw [kI_eq kv], by omega, by omega, ?_⟩
    have e : ((n : Int)).toNat = n := by omega
    rw [e]
    exact q _ _ H1 y it_rng trivial fun _ _ _ h => h)
/-! ### for -/
theorem s_for {tg it : Expr} {g : TG} (hg : PG X tg g) (h : JI M X tg it σ H ds) (hc : X.calm = true)
    (k : ∀ H1, Xt M H H1 → ∃ Pv : Nat → L2.St → Hp → Prop, Pv 0 σ H1 ∧ (∀ j σ' H', Pv j σ' H' → Tm H1 H') ∧
      (∀ j d v σ' H', ds[j]? = some d → Rp H' v d → Pv j σ' H' → g v σ' H' fun σ2 H2 => WSs X body { D with nx := Pv (j + 1), ct := Pv (j + 1), bk := WSs X rest D } σ2 H2) ∧ ∀ σ' H', Pv ds.length σ' H' → WSs X rest D σ' H')
    (hp : PassesOwn (model X.prog X.w) X.A X.env X.xe := by exact PassesOwn.never) (hs : ∀ x, foldedSetIterable it X.env x = pure x := by intro _; rfl) : WSs X (.For tg it body [] pos :: rest) D σ H := by
  refine s_cons (ws_of (ps_for hp hc pi_wi hg pss_wss hs) (h H (Xt.refl H) _ fun J Kp H1 x ok k0 stb => ?_))
  obtain ⟨Pv, p0, pt, ps, pd⟩ := k H1 x
  refine ⟨fun i m σ' H' => m = ds.length - i ∧ i ≤ ds.length ∧ Pv i σ' H', ⟨ds.length, by simp, Nat.zero_le _, p0⟩, ?_⟩
  rintro i m σ' H' ⟨rfl, hi, p⟩
  have kp := stb _ _ (pt i σ' H' p) k0
  by_cases hlt : i < ds.length
  · refine .inr ⟨ok.goes i H' kp hlt, Pv (i + 1), fun σ2 H2 p' => ⟨ds.length - (i + 1), by omega, rfl, hlt, p'⟩, fun v H2 y => ?_⟩
    obtain ⟨rfl, d, hd, r⟩ := ok.yld i H' v H2 kp hlt y
    exact ps i d v σ' H2 hd r p
  · have e : i = ds.length := by omega
    subst e
    exact .inl ⟨ok.stops H' kp, pd σ' H' p⟩
theorem s_forL {tg it : Expr} {g : TG} (hg : PG X tg g) (h : JIL M X tg it σ H ds) (hc : X.calm = true)
    (k : ∀ p xs H1, Xt M H H1 → H1 p = some (.lst xs) → RpL H1 xs ds → ∃ Pv : Nat → L2.St → Hp → Prop, Pv 0 σ H1 ∧ (∀ j σ' H', Pv j σ' H' → Tm H1 H' ∧ H' p = some (.lst xs)) ∧
      (∀ j d v σ' H', ds[j]? = some d → Rp H' v d → Pv j σ' H' → g v σ' H' fun σ2 H2 => WSs X body { D with nx := Pv (j + 1), ct := Pv (j + 1), bk := WSs X rest D } σ2 H2) ∧ ∀ σ' H', Pv ds.length σ' H' → WSs X rest D σ' H')
    (hp : PassesOwn (model X.prog X.w) X.A X.env X.xe := by exact PassesOwn.never) (hs : ∀ x, foldedSetIterable it X.env x = pure x := by intro _; rfl) : WSs X (.For tg it body [] pos :: rest) D σ H := by
  refine s_cons (ws_of (ps_for hp hc pi_wi hg pss_wss hs) (h H (Xt.refl H) _ fun J q xs H1 x ok k0 => ?_))
  obtain ⟨Pv, p0, pt, ps, pd⟩ := k q xs H1 x k0.1 k0.2
  refine ⟨fun i m σ' H' => m = ds.length - i ∧ i ≤ ds.length ∧ Pv i σ' H', ⟨ds.length, by simp, Nat.zero_le _, p0⟩, ?_⟩
  rintro i m σ' H' ⟨rfl, hi, p⟩
  obtain ⟨tm, el⟩ := pt i σ' H' p
  have kp : KpL q xs ds H' := ⟨el, RpL.tm tm _ k0.2⟩
  by_cases hlt : i < ds.length
  · refine .inr ⟨ok.goes i H' kp hlt, Pv (i + 1), fun σ2 H2 p' => ⟨ds.length - (i + 1), by omega, rfl, hlt, p'⟩, fun v H2 y => ?_⟩
    obtain ⟨rfl, d, hd, r⟩ := ok.yld i H' v H2 kp hlt y
    exact ps i d v σ' H2 hd r p
  · have e : i = ds.length := by omega
    subst e
    exact .inl ⟨ok.stops H' kp, pd σ' H' p⟩
theorem s_while (W : Nat → L2.St → Hp → Prop) (m0 : Nat) (h0 : W m0 σ H)
    (hs : ∀ m σ' H', W m σ' H' → ∃ b, JT M X c σ' H' b ∧ (b = true → ∀ H1, Xt M H' H1 → WSs X body { D with nx := fun σ2 H2 => ∃ m', m' < m ∧ W m' σ2 H2, ct := fun σ2 H2 => ∃ m', m' < m ∧ W m' σ2 H2, bk := WSs X rest D } σ' H1) ∧ (b = false → ∀ H1, Xt M H' H1 → WSs X rest D σ' H1))
    (hp : PassesOwn (model X.prog X.w) X.A X.env X.xe := by exact PassesOwn.never) : WSs X (.While c body [] pos :: rest) D σ H := by
  refine s_cons (ws_of (ps_while hp pt_wt pss_wss) ⟨W, ⟨m0, h0⟩, fun m σ' H' w => ?_⟩)
  obtain ⟨b, hb, ht, hf⟩ := hs m σ' H' w
  refine hb H' (Xt.refl H') _ fun H1 y => ?_
  cases b with
  | true =>
    rw [if_pos rfl]
    exact ⟨_, fun _ _ n => n, ht rfl H1 y⟩
  | false =>
    rw [if_neg Bool.false_ne_true]
    exact hf rfl H1 y
/-! ### targets that are tuples -/
theorem g_pair {K : PySem.W.Frag} {i j : Nat} {v : V} {d1 d2 : PyData} {Q : L2.St → Hp → Prop} (h : Rp H v (.tuple [d1, d2])) (q : ∀ v1 v2, Rp H v1 d1 → Rp H v2 d2 → Q ((σ.set i (some v1)).set j (some v2)) H) :
    gTup K 2 (gCons (gName i) (gCons (gName j) gNil)) v σ H Q := by
  obtain ⟨p, xs, rfl, ex, r⟩ := rp_tup h
  cases r with
  | cons r1 r =>
    cases r with
    | cons r2 r =>
      cases r
      exact ⟨p, _, rfl, SqT.of ex, rfl, _, _, rfl, _, _, rfl, rfl, q _ _ r1 r2⟩
theorem g_three {K : PySem.W.Frag} {i j l : Nat} {v : V} {d1 d2 d3 : PyData} {Q : L2.St → Hp → Prop} (h : Rp H v (.tuple [d1, d2, d3])) (q : ∀ v1 v2 v3, Rp H v1 d1 → Rp H v2 d2 → Rp H v3 d3 → Q (((σ.set i (some v1)).set j (some v2)).set l (some v3)) H) :
    gTup K 3 (gCons (gName i) (gCons (gName j) (gCons (gName l) gNil))) v σ H Q := by
  obtain ⟨p, xs, rfl, ex, r⟩ := rp_tup h
  cases r with
  | cons r1 r =>
    cases r with
    | cons r2 r =>
      cases r with
      | cons r3 r =>
        cases r
        exact ⟨p, _, rfl, SqT.of ex, rfl, _, _, rfl, _, _, rfl, _, _, rfl, rfl, q _ _ _ r1 r2 r3⟩
/-- x, y = e; (x, y), z = e: by the target -/
theorem s_asgG {tg : Expr} {g : TG} (hg : PG X tg g) (h : JK M X e σ H K) (k : ∀ v H1, Xt M H H1 → K H1 v → g v σ H1 fun σ2 H2 => WSs X rest D σ2 H2) (hs : swapsWithSole [tg] e pos.line X.env = pure false := by rfl) (hw : swappedStores [tg] e X.env = pure none := by rfl)
    (h1 : (assignEach [tg] X.env).map (·.2) = [assign tg X.env] := by rfl) : WSs X (.Assign [tg] e pos :: rest) D σ H :=
  s_cons (ws_of (ps_asg pe_we hg hs hw h1) (h H (Xt.refl H) _ fun v H1 y kv => k v H1 y kv))
end
end K68

set_option Elab.async false
set_option linter.all false
set_option maxRecDepth 100000
set_option maxHeartbeats 2000000
/-! K68, text A4: comprehensions of one clause. -/
namespace K68
open PySem PySem.Spec L2
open PyProof.Rows hiding St
/-- judgements within a comprehension's block, whatever it is -/
def JBK (M : Md) (X : Cx) (scope : Scope) (e : Expr) (σ : L2.St) (H : Hp) (K : Kn) : Prop := ∀ (s0 : Shared) (H0 : Hp) (C : Addr) (cl : List (Str × Addr)) (fp : List Addr), JK M (X.blk s0 H0 scope (compEnvC scope cl C X.env) fp) e σ H K
def JBT (M : Md) (X : Cx) (scope : Scope) (e : Expr) (σ : L2.St) (H : Hp) (b : Bool) : Prop := ∀ (s0 : Shared) (H0 : Hp) (C : Addr) (cl : List (Str × Addr)) (fp : List Addr), JT M (X.blk s0 H0 scope (compEnvC scope cl C X.env) fp) e σ H b
def JBTs (M : Md) (X : Cx) (scope : Scope) (es : List Expr) (σ : L2.St) (H : Hp) (b : Bool) : Prop := ∀ (s0 : Shared) (H0 : Hp) (C : Addr) (cl : List (Str × Addr)) (fp : List Addr), JTs M (X.blk s0 H0 scope (compEnvC scope cl C X.env) fp) es σ H b
def BE (X : Cx) (scope : Scope) (e : Expr) : TE := fun σ H Q => ∀ (s0 : Shared) (H0 : Hp) (C : Addr) (cl : List (Str × Addr)) (fp : List Addr), WE (X.blk s0 H0 scope (compEnvC scope cl C X.env) fp) e σ H Q
def BTs (X : Cx) (scope : Scope) (es : List Expr) : TT := fun σ H Q => ∀ (s0 : Shared) (H0 : Hp) (C : Addr) (cl : List (Str × Addr)) (fp : List Addr), WTs (X.blk s0 H0 scope (compEnvC scope cl C X.env) fp) es σ H Q
def BI (X : Cx) (scope : Scope) (tg e : Expr) : TI := fun σ H Q => ∀ (s0 : Shared) (H0 : Hp) (C : Addr) (cl : List (Str × Addr)) (fp : List Addr), WI (X.blk s0 H0 scope (compEnvC scope cl C X.env) fp) tg e σ H Q
theorem jbts_nil {X : Cx} {scope : Scope} {σ : L2.St} {H : Hp} : JBTs M X scope [] σ H true := fun _ _ _ _ _ => jts_nil
theorem jbts_one {X : Cx} {scope : Scope} {e : Expr} {σ : L2.St} {H : Hp} {b : Bool} (h : JBT M X scope e σ H b) : JBTs M X scope [e] σ H b := fun s0 H0 C cl fp => jts_one (h s0 H0 C cl fp)
theorem JBK.up {X : Cx} {scope : Scope} {e : Expr} {σ : L2.St} {H H' : Hp} {K : Kn} (x : Xt M H H') (h : JBK M X scope e σ H K) : JBK M X scope e σ H' K := fun s0 H0 C cl fp => (h s0 H0 C cl fp).up x
/-- what is walked, however -/
def JIx (M : Md) (X : Cx) (tg it : Expr) (σ : L2.St) (H : Hp) (ds : List PyData) : Prop := ∀ H0, Xt M H H0 → ∀ R : It → Hp → Prop, (∀ J Kp H1, Xt M H0 H1 → ItOk M J Kp ds → Kp H1 → R J H1) → WI X tg it σ H0 R
theorem JI.x {X : Cx} {tg it : Expr} {σ : L2.St} {H : Hp} {ds : List PyData} (h : JI M X tg it σ H ds) : JIx M X tg it σ H ds := fun H0 x R q => h H0 x R fun J Kp H1 y ok k _ => q J Kp H1 y ok k
theorem JIL.x {X : Cx} {tg it : Expr} {σ : L2.St} {H : Hp} {ds : List PyData} (h : JIL M X tg it σ H ds) : JIx M X tg it σ H ds := fun H0 x R q => h H0 x R fun J p xs H1 y ok k => q J _ H1 y ok k
theorem fm_step {β γ : Type} {bs : List β} {f : β → Bool} {g : β → γ} {i : Nat} {b : β} (h : bs[i]? = some b) : ((bs.take (i + 1)).filter f).map g = ((bs.take i).filter f).map g ++ (if f b = true then [g b] else []) := by
  rw [List.take_add_one, h, Option.toList_some, List.filter_append, List.map_append]
  congr 1
  by_cases hf : f b = true
  · simp [hf]
  · simp [hf]
section
variable {M : Md} {X : Cx} {σ : L2.St} {H : Hp} {scope : Scope} {β : Type} {tg it elt : Expr} {ifs : List Expr} {g : TG} {vs : List Nat}
/-- the target's part: it stores what stands for b, then Gd -/
def TgOk (M : Md) (H : Hp) (σ : L2.St) (g : TG) (vs : List Nat) (bs : List β) (enc : β → PyData) (Gd : β → L2.St → Hp → Prop) : Prop :=
  ∀ H1 b v (Q : L2.St → Hp → Prop), Xt M H H1 → b ∈ bs → Rp H1 v (enc b) → (∀ σ2, wipe σ2 vs = wipe σ vs → Gd b σ2 H1 → Q σ2 H1) → g v (wipe σ vs) H1 Q
/-- one name at place i -/
def Gd1 (σ : L2.St) (vs : List Nat) (i : Nat) (enc : β → PyData) : β → L2.St → Hp → Prop := fun b σ2 H1 => ∃ v, Rp H1 v (enc b) ∧ σ2 = (wipe σ vs).set i (some v)
theorem tg_name {bs : List β} {enc : β → PyData} {i : Nat} (hw : ∀ v, wipe ((wipe σ vs).set i (some v)) vs = wipe σ vs) : TgOk M H σ (gName i) vs bs enc (Gd1 σ vs i enc) := fun H1 b v Q x hb r q => q _ (hw v) ⟨v, r, rfl⟩
/-- two names -/
def Gd2 (σ : L2.St) (vs : List Nat) (i j : Nat) (e1 e2 : β → PyData) : β → L2.St → Hp → Prop := fun b σ2 H1 => ∃ v w, Rp H1 v (e1 b) ∧ Rp H1 w (e2 b) ∧ σ2 = ((wipe σ vs).set i (some v)).set j (some w)
theorem tg_pair {K : PySem.W.Frag} {bs : List β} {e1 e2 : β → PyData} {i j : Nat} (hw : ∀ v w, wipe (((wipe σ vs).set i (some v)).set j (some w)) vs = wipe σ vs) :
    TgOk M H σ (gTup K 2 (gCons (gName i) (gCons (gName j) gNil))) vs bs (fun b => .tuple [e1 b, e2 b]) (Gd2 σ vs i j e1 e2) := fun H1 b v Q x hb r q => g_pair r fun v1 v2 r1 r2 => q _ (hw v1 v2) ⟨v1, v2, r1, r2, rfl⟩
theorem lc_read {bs : List β} {enc gg : β → PyData} {f : β → Bool} {Gd : β → L2.St → Hp → Prop} (h : JIx M X tg it σ H (bs.map enc)) (hl : bs.length ≤ 1000000) (hgt : TgOk M H σ g vs bs enc Gd) (hi : M.i H)
    (ht : ∀ H1 b σ2, Xt M H H1 → b ∈ bs → Gd b σ2 H1 → JBTs M X scope ifs σ2 H1 (f b)) (he : ∀ H1 b σ2, Xt M H H1 → b ∈ bs → Gd b σ2 H1 → f b = true → JBK M X scope elt σ2 H1 (kD (gg b))) :
    ∀ H0, Xt M H H0 → ∀ Q : VK, (∀ p xs H2, H0 p = none → Xt M H0 H2 → H2 p = some (.lst xs) → RpL H2 xs ((bs.filter f).map gg) → Q (.ref p) H2) → tLc (WI X tg it) g (BTs X scope ifs) (BE X scope elt) vs σ H0 Q := by
  intro H0 x Q q
  refine h H0 x _ fun J Kp H1 y ok k0 => ?_
  intro Dl hD
  have hm0 : ¬ M.m Dl := M.new ((x.trans y).inv hi) hD
  have hlen : (bs.map enc).length = bs.length := List.length_map _
  refine ⟨fun i m H' => m = bs.length - i ∧ i ≤ bs.length ∧ Xt M H1 H' ∧ ∃ xs, H' Dl = some (.lst xs) ∧ RpL H' xs (((bs.take i).filter f).map gg), ⟨bs.length, by simp, Nat.zero_le _, Xt.new hD, [], upd_same, .nil⟩, ?_⟩
  rintro i m H' ⟨rfl, hi', z, xs, ed, rl⟩
  have kp := ok.up _ _ z k0
  by_cases hlt : i < bs.length
  · refine .inr ⟨ok.goes i H' kp (by rw [hlen]; exact hlt), fun H2 => Xt M H1 H2 ∧ ∃ xs, H2 Dl = some (.lst xs) ∧ RpL H2 xs (((bs.take (i + 1)).filter f).map gg), fun H2 p' => ⟨bs.length - (i + 1), by omega, rfl, hlt, p'⟩, fun v H2 yy => ?_⟩
    obtain ⟨rfl, d, hd, r⟩ := ok.yld i H' v H2 kp (by rw [hlen]; exact hlt) yy
    have hb : bs[i]? = some bs[i] := by simp [hlt]
    rw [List.getElem?_map, hb] at hd
    have hd : enc bs[i] = d := Option.some.inj hd
    subst hd
    have hm : bs[i] ∈ bs := List.getElem_mem hlt
    have e := fm_step (f := f) (g := gg) hb
    refine hgt H2 bs[i] v _ ((x.trans y).trans z) hm r fun σ2 hw gd => ⟨hw, ?_⟩
    intro s0 H0' C cl fp
    refine ht H2 bs[i] σ2 ((x.trans y).trans z) hm gd s0 H0' C cl fp H2 (Xt.refl H2) _ fun H3 t => ?_
    have ed3 := t.keep _ _ ed (nt_lst xs) hm0
    cases hf : f bs[i] with
    | true =>
      rw [if_pos rfl]
      intro s0 H0' C cl fp
      refine he H2 bs[i] σ2 ((x.trans y).trans z) hm gd hf s0 H0' C cl fp H3 t _ fun w H4 t4 kw => ?_
      have ed4 := t4.keep _ _ ed3 (nt_lst xs) hm0
      refine ⟨xs, ed4, ?_, ((z.trans t).trans t4).mut hD, xs ++ [w], upd_same, ?_⟩
      · rw [rl.length, List.length_map]
        have h1 := List.length_filter_le f (bs.take i)
        rw [List.length_take] at h1
        exact Nat.lt_of_lt_of_le (show _ < 1000001 by omega) (by decide)
      · rw [e, if_pos hf]
        have tm : Tm H4 (upd H4 Dl (.lst (xs ++ [w]))) := Tm.lst ed4
        exact RpL.tm tm _ ((RpL.tm (t.trans t4).tm _ rl).app (.cons kw .nil))
    | false =>
      rw [if_neg Bool.false_ne_true]
      refine ⟨z.trans t, xs, ed3, ?_⟩
      rw [e, if_neg (by rw [hf]; exact Bool.false_ne_true), List.append_nil]
      exact RpL.tm t.tm _ rl
  · have ei : i = bs.length := by omega
    subst ei
    refine .inl ⟨by have := ok.stops H' kp; rw [hlen] at this; exact this, ?_⟩
    rw [List.take_length] at rl
    exact q Dl xs H' (y.free _ hD) (y.trans z) ed rl
theorem j_lc {bs : List β} {enc gg : β → PyData} {f : β → Bool} {Gd : β → L2.St → Hp → Prop} {own : List (Str × Nat)} {pos : Pos} (hc : X.calm = true) (nd : X.N.Nodup) (ok : BlkOk X.N X.env.scope scope own)
    (hg : ∀ (s : Shared) (H : Hp) (C : Addr) (cl : List (Str × Addr)) (fp : List Addr), PG (X.blk s H scope (compEnvC scope cl C X.env) fp) tg g)
    (h : JIx M X tg it σ H (bs.map enc)) (hl : bs.length ≤ 1000000) (hgt : TgOk M H σ g (own.map (·.2)) bs enc Gd) (hi : M.i H := by first | exact trivial | assumption)
    (ht : ∀ H1 b σ2, Xt M H H1 → b ∈ bs → Gd b σ2 H1 → JBTs M X scope ifs σ2 H1 (f b)) (he : ∀ H1 b σ2, Xt M H H1 → b ∈ bs → Gd b σ2 H1 → f b = true → JBK M X scope elt σ2 H1 (kD (gg b)))
    (hs : ∀ x, foldedSetIterable it X.env x = pure x := by intro _; rfl) : JL M X (.ListComp elt [⟨tg, it, ifs, 0⟩] scope pos) σ H ((bs.filter f).map gg) := fun H0 x Q q =>
  we_of (pe_lc hc nd pi_wi ok hg (fun s H C cl fp => ⟨fun pins s' σ H' Q I h => h s H C cl fp pins s' I⟩) (fun s H C cl fp => ⟨fun pins s' σ H' Q I h => h s H C cl fp pins s' I⟩) hs) (lc_read h hl hgt hi ht he H0 x Q q)
theorem s_asgLc {rest : List Stmt} {D : Ends} (i : Nat) {y : Str} {py : Pos} {bs : List β} {enc gg : β → PyData} {f : β → Bool} {Gd : β → L2.St → Hp → Prop} {own : List (Str × Nat)} {pos spos : Pos} (hc : X.calm = true) (nd : X.N.Nodup) (ok : BlkOk X.N X.env.scope scope own)
    (hg : ∀ (s : Shared) (H : Hp) (C : Addr) (cl : List (Str × Addr)) (fp : List Addr), PG (X.blk s H scope (compEnvC scope cl C X.env) fp) tg g)
    (h : JIx M X tg it σ H (bs.map enc)) (hl : bs.length ≤ 1000000) (hgt : TgOk M H σ g (own.map (·.2)) bs enc Gd) (hi : M.i H := by first | exact trivial | assumption)
    (ht : ∀ H1 b σ2, Xt M H H1 → b ∈ bs → Gd b σ2 H1 → JBTs M X scope ifs σ2 H1 (f b)) (he : ∀ H1 b σ2, Xt M H H1 → b ∈ bs → Gd b σ2 H1 → f b = true → JBK M X scope elt σ2 H1 (kD (gg b)))
    (k : ∀ q xs H1, H q = none → Xt M H H1 → H1 q = some (.lst xs) → RpL H1 xs ((bs.filter f).map gg) → WSs X rest D (σ.set i (some (.ref q))) H1)
    (hy : X.N[i]? = some y := by rfl) (hyl : X.env.scope.names.lookup y = some .local := by rfl)
    (hsw : swapsWith (.ListComp elt [⟨tg, it, ifs, 0⟩] scope pos) (some (.Name y py)) spos.line X.env = pure true := by exact sw_true rfl rfl rfl (by decide +kernel))
    (hs : ∀ x, foldedSetIterable it X.env x = pure x := by intro _; rfl) : WSs X (.Assign [.Name y py] (.ListComp elt [⟨tg, it, ifs, 0⟩] scope pos) spos :: rest) D σ H :=
  s_cons (ws_of (ps_setLc hc nd hy hyl hsw pi_wi ok hg (fun s H C cl fp => ⟨fun pins s' σ H' Q I h => h s H C cl fp pins s' I⟩) (fun s H C cl fp => ⟨fun pins s' σ H' Q I h => h s H C cl fp pins s' I⟩) hs)
    (lc_read h hl hgt hi ht he H (Xt.refl H) _ fun q xs H1 n y e r => k q xs H1 n y e r))

/-! ### dicts of the form {k: True ..} -/
def putAll (cs : List Int) : List (Key × V) := cs.foldl (fun acc c => putK acc (Sum.inl c) (.bl true)) []
theorem putAll_app (cs : List Int) (c : Int) : putAll (cs ++ [c]) = putK (putAll cs) (Sum.inl c) (.bl true) := by
  unfold putAll
  rw [List.foldl_append]
  rfl
theorem putAll_len (cs : List Int) : (putAll cs).length ≤ cs.length := by
  have h : ∀ (cs : List Int) (acc : List (Key × V)), (cs.foldl (fun acc c => putK acc (Sum.inl c) (.bl true)) acc).length ≤ acc.length + cs.length := by
    intro cs
    induction cs with
    | nil => intro acc; exact Nat.le_refl _
    | cons c r ih =>
      intro acc
      have h1 := ih (putK acc (Sum.inl c) (.bl true))
      have h2 := length_putK acc (Sum.inl c) (V.bl true)
      rw [List.foldl_cons, List.length_cons]
      omega
  have := h cs []
  unfold putAll
  simpa using this
theorem hasK_put (kvs : List (Key × V)) (k c : Int) (v : V) : hasK (putK kvs (Sum.inl k) v) c = (decide (c = k) || hasK kvs c) := by
  unfold hasK
  rw [valV_put]
  by_cases h : c = k
  · subst h
    simp
  · have h' : ¬ ((Sum.inl c : Key) = Sum.inl k) := fun z => h (Sum.inl.inj z)
    rw [if_neg h', decide_eq_false h, Bool.false_or]
theorem hasK_putAll (cs : List Int) (c : Int) : hasK (putAll cs) c = decide (c ∈ cs) := by
  have h : ∀ (cs : List Int) (acc : List (Key × V)), hasK (cs.foldl (fun acc c => putK acc (Sum.inl c) (.bl true)) acc) c = (hasK acc c || decide (c ∈ cs)) := by
    intro cs
    induction cs with
    | nil => intro acc; simp
    | cons x r ih =>
      intro acc
      rw [List.foldl_cons, ih, hasK_put]
      by_cases h1 : c = x
      · subst h1; simp
      · by_cases h2 : c ∈ r <;> simp [h1, h2]
  have := h cs []
  unfold putAll
  rw [this]
  rfl
theorem dc_read {bs : List β} {enc : β → PyData} {gk : β → Int} {f : β → Bool} {Gd : β → L2.St → Hp → Prop} {kx vx : Expr} (h : JIx M X tg it σ H (bs.map enc)) (hl : bs.length ≤ 1000000) (hgt : TgOk M H σ g vs bs enc Gd) (hi : M.i H)
    (ht : ∀ H1 b σ2, Xt M H H1 → b ∈ bs → Gd b σ2 H1 → JBTs M X scope ifs σ2 H1 (f b)) (hk : ∀ H1 b σ2, Xt M H H1 → b ∈ bs → Gd b σ2 H1 → f b = true → JBK M X scope kx σ2 H1 (kI (gk b))) (hv : ∀ H1 σ2, JBK M X scope vx σ2 H1 (kB true)) :
    ∀ H0, Xt M H H0 → ∀ Q : VK, (∀ p H2, H0 p = none → Xt M H0 H2 → H2 p = some (.dK (putAll ((bs.filter f).map gk))) → Q (.ref p) H2) → tDc (WI X tg it) g (BTs X scope ifs) (BE X scope kx) (BE X scope vx) vs σ H0 Q := by
  intro H0 x Q q
  refine h H0 x _ fun J Kp H1 y ok k0 => ?_
  intro Dl hD
  have hm0 : ¬ M.m Dl := M.new ((x.trans y).inv hi) hD
  have hlen : (bs.map enc).length = bs.length := List.length_map _
  refine ⟨fun i m H' => m = bs.length - i ∧ i ≤ bs.length ∧ Xt M H1 H' ∧ H' Dl = some (.dK (putAll (((bs.take i).filter f).map gk))), ⟨bs.length, by simp, Nat.zero_le _, Xt.new hD, upd_same⟩, ?_⟩
  rintro i m H' ⟨rfl, hi', z, ed⟩
  have kp := ok.up _ _ z k0
  by_cases hlt : i < bs.length
  · refine .inr ⟨ok.goes i H' kp (by rw [hlen]; exact hlt), fun H2 => Xt M H1 H2 ∧ H2 Dl = some (.dK (putAll (((bs.take (i + 1)).filter f).map gk))), fun H2 p' => ⟨bs.length - (i + 1), by omega, rfl, hlt, p'⟩, fun v H2 yy => ?_⟩
    obtain ⟨rfl, d, hd, r⟩ := ok.yld i H' v H2 kp (by rw [hlen]; exact hlt) yy
    have hb : bs[i]? = some bs[i] := by simp [hlt]
    rw [List.getElem?_map, hb] at hd
    have hd : enc bs[i] = d := Option.some.inj hd
    subst hd
    have hm : bs[i] ∈ bs := List.getElem_mem hlt
    have e := fm_step (f := f) (g := gk) hb
    refine hgt H2 bs[i] v _ ((x.trans y).trans z) hm r fun σ2 hw gd => ⟨hw, ?_⟩
    intro s0 H0' C cl fp
    refine ht H2 bs[i] σ2 ((x.trans y).trans z) hm gd s0 H0' C cl fp H2 (Xt.refl H2) _ fun H3 t => ?_
    have ed3 := t.keep _ _ ed (nt_dK _) hm0
    cases hf : f bs[i] with
    | true =>
      rw [if_pos rfl]
      intro s0 H0' C cl fp
      refine hk H2 bs[i] σ2 ((x.trans y).trans z) hm gd hf s0 H0' C cl fp H3 t _ fun w H4 t4 kw => ?_
      intro s0 H0' C cl fp
      refine hv H4 σ2 s0 H0' C cl fp H4 (Xt.refl H4) _ fun w2 H5 t5 kw2 => ?_
      have ed5 := t5.keep _ _ (t4.keep _ _ ed3 (nt_dK _) hm0) (nt_dK _) hm0
      refine ⟨_, Sum.inl (gk bs[i]), kI_eq kw, ed5, ?_, (((z.trans t).trans t4).trans t5).mut hD, ?_⟩
      · have h1 := List.length_filter_le f (bs.take i)
        rw [List.length_take] at h1
        have h2 := putAll_len (((bs.take i).filter f).map gk)
        rw [List.length_map] at h2
        exact Nat.lt_of_lt_of_le (show _ < 1000001 by omega) (by decide)
      · rw [e, if_pos hf, putAll_app, kB_eq kw2]
        exact upd_same
    | false =>
      rw [if_neg Bool.false_ne_true]
      refine ⟨z.trans t, ?_⟩
      rw [e, if_neg (by rw [hf]; exact Bool.false_ne_true), List.append_nil]
      exact ed3
  · have ei : i = bs.length := by omega
    subst ei
    refine .inl ⟨by have := ok.stops H' kp; rw [hlen] at this; exact this, ?_⟩
    rw [List.take_length] at ed
    exact q Dl H' (y.free _ hD) (y.trans z) ed
theorem j_dc {bs : List β} {enc : β → PyData} {gk : β → Int} {f : β → Bool} {Gd : β → L2.St → Hp → Prop} {kx vx : Expr} {own : List (Str × Nat)} {pos : Pos} (hc : X.calm = true) (nd : X.N.Nodup) (ok : BlkOk X.N X.env.scope scope own)
    (hg : ∀ (s : Shared) (H : Hp) (C : Addr) (cl : List (Str × Addr)) (fp : List Addr), PG (X.blk s H scope (compEnvC scope cl C X.env) fp) tg g)
    (h : JIx M X tg it σ H (bs.map enc)) (hl : bs.length ≤ 1000000) (hgt : TgOk M H σ g (own.map (·.2)) bs enc Gd) (hi : M.i H := by first | exact trivial | assumption)
    (ht : ∀ H1 b σ2, Xt M H H1 → b ∈ bs → Gd b σ2 H1 → JBTs M X scope ifs σ2 H1 (f b)) (hk : ∀ H1 b σ2, Xt M H H1 → b ∈ bs → Gd b σ2 H1 → f b = true → JBK M X scope kx σ2 H1 (kI (gk b))) (hv : ∀ H1 σ2, JBK M X scope vx σ2 H1 (kB true))
    (hs : ∀ x, foldedSetIterable it X.env x = pure x := by intro _; rfl) : JDK M X (.DictComp kx vx [⟨tg, it, ifs, 0⟩] scope pos) σ H (putAll ((bs.filter f).map gk)) := fun H0 x Q q =>
  we_of (pe_dc hc nd pi_wi ok hg (fun s H C cl fp => ⟨fun pins s' σ H' Q I h => h s H C cl fp pins s' I⟩) (fun s H C cl fp => ⟨fun pins s' σ H' Q I h => h s H C cl fp pins s' I⟩) (fun s H C cl fp => ⟨fun pins s' σ H' Q I h => h s H C cl fp pins s' I⟩) hs) (dc_read h hl hgt hi ht hk hv H0 x Q q)
/-- name = {..} on one line, the name a local -/
theorem ps_setDc {i : Nat} {y : Str} {py : Pos} {kx vx tgt iter : Expr} {ifs : List Expr} {own : List (Str × Nat)} {pos spos : Pos} {wi : TI} {g : TG} {tt : TT} {tk tv : TE} (hc : X.calm = true) (hN : X.N.Nodup) (hy : X.N[i]? = some y) (hyl : X.env.scope.names.lookup y = some .local)
    (hsw : swapsWith (.DictComp kx vx [⟨tgt, iter, ifs, 0⟩] scope pos) (some (.Name y py)) spos.line X.env = pure true) (hi : PI X tgt iter wi) (ok : BlkOk X.N X.env.scope scope own)
    (hg : ∀ (s : Shared) (H : Hp) (C : Addr) (cl : List (Str × Addr)) (fp : List Addr), PG (X.blk s H scope (compEnvC scope cl C X.env) fp) tgt g) (ht : ∀ (s : Shared) (H : Hp) (C : Addr) (cl : List (Str × Addr)) (fp : List Addr), PTs (X.blk s H scope (compEnvC scope cl C X.env) fp) ifs tt)
    (hk : ∀ (s : Shared) (H : Hp) (C : Addr) (cl : List (Str × Addr)) (fp : List Addr), PE (X.blk s H scope (compEnvC scope cl C X.env) fp) kx tk) (he : ∀ (s : Shared) (H : Hp) (C : Addr) (cl : List (Str × Addr)) (fp : List Addr), PE (X.blk s H scope (compEnvC scope cl C X.env) fp) vx tv)
    (hs : ∀ x, foldedSetIterable iter X.env x = pure x) : PS X (.Assign [.Name y py] (.DictComp kx vx [⟨tgt, iter, ifs, 0⟩] scope pos) spos) (tAsg (tDc wi g tt tk tv (own.map (·.2))) (gName i)) := by
  refine ⟨fun pins s σ H D I h => ?_⟩
  rw [exec_Assign_Name_used _ _ _ _ hsw]
  refine wpAny_bind (wpAny_standAt (wpAny_bind ?_))
  show wpAny _ X.A (do let _ ← comprehension (.DictComp kx vx [⟨tgt, iter, ifs, 0⟩] scope pos) scope X.env (firstIterPos [⟨tgt, iter, ifs, 0⟩] pos) newDict false (eval iter X.env) (some (assign (.Name y py) X.env))) _ _ s
  have h : tDc wi g tt tk tv (own.map (·.2)) σ H (fun x H1 => gName i x σ H1 D.nx) := h
  refine wpAny_bind (thn (dc_core (Qf := fun _ s' => SP X pins D .next s') hc hN I hi ok hg ht hk he hs h fun L C s' m H' I' q hn f => ?_) fun _ s' hq => wpAny_pure (wpAny_pure hq))
  show wpAny _ _ (assign (.Name y py) X.env (.ref L)) _ _ _
  refine wpAny_assign_Name (store_ok2 (v := V.ref L) I' hN hy (.inl hyl) rfl (fun s2 I2 ⟨a, sb, ha⟩ => ?_) (.inr hyl))
  obtain ⟨f0, f1, f2, f3, f4, f5⟩ := f
  have haC : C ≠ a := by
    rcases ha with z | z
    · rw [z]; exact f1
    · exact fun e => f4 y a z e.symm
  refine ⟨m, hn.sameBut sb haC, fun h3 sb3 => ?_⟩
  exact ⟨_, H', I2.turned (t' := s2.toks) (fun b o hb e => (sb3.2 b hb).trans e) f0 f1 f3 f4 f5, q⟩
theorem sw_trueD {kx vx : Expr} {gs : List Comprehension} {pos py : Pos} {y : Str} {l : Nat} {env : Env} (hk : env.scope.kind = .function) (hy : env.scope.names.lookup y = some .local) (hl : (py.line == pos.line) = true)
    (ha : (scope.names.any fun (n, k) => n == y && (k == .local || k == .cell)) = false) : swapsWith (.DictComp kx vx gs scope pos) (some (.Name y py)) l env = pure true := by
  have ky : env.kindOf y = some .local := hy
  have hb : env.blockKind = .function := by unfold Env.blockKind; rw [hk]; rfl
  unfold swapsWith
  simp only [hb, ky, ha, Expr.pos, hl]
  rfl
theorem s_asgDc {rest : List Stmt} {D : Ends} (i : Nat) {y : Str} {py : Pos} {bs : List β} {enc : β → PyData} {gk : β → Int} {f : β → Bool} {Gd : β → L2.St → Hp → Prop} {kx vx : Expr} {own : List (Str × Nat)} {pos spos : Pos} (hc : X.calm = true) (nd : X.N.Nodup) (ok : BlkOk X.N X.env.scope scope own)
    (hg : ∀ (s : Shared) (H : Hp) (C : Addr) (cl : List (Str × Addr)) (fp : List Addr), PG (X.blk s H scope (compEnvC scope cl C X.env) fp) tg g)
    (h : JIx M X tg it σ H (bs.map enc)) (hl : bs.length ≤ 1000000) (hgt : TgOk M H σ g (own.map (·.2)) bs enc Gd) (hi : M.i H := by first | exact trivial | assumption)
    (ht : ∀ H1 b σ2, Xt M H H1 → b ∈ bs → Gd b σ2 H1 → JBTs M X scope ifs σ2 H1 (f b)) (hk : ∀ H1 b σ2, Xt M H H1 → b ∈ bs → Gd b σ2 H1 → f b = true → JBK M X scope kx σ2 H1 (kI (gk b))) (hv : ∀ H1 σ2, JBK M X scope vx σ2 H1 (kB true))
    (k : ∀ q H1, H q = none → Xt M H H1 → H1 q = some (.dK (putAll ((bs.filter f).map gk))) → WSs X rest D (σ.set i (some (.ref q))) H1)
    (hy : X.N[i]? = some y := by rfl) (hyl : X.env.scope.names.lookup y = some .local := by rfl)
    (hsw : swapsWith (.DictComp kx vx [⟨tg, it, ifs, 0⟩] scope pos) (some (.Name y py)) spos.line X.env = pure true := by exact sw_trueD rfl rfl rfl (by decide +kernel))
    (hs : ∀ x, foldedSetIterable it X.env x = pure x := by intro _; rfl) : WSs X (.Assign [.Name y py] (.DictComp kx vx [⟨tg, it, ifs, 0⟩] scope pos) spos :: rest) D σ H :=
  s_cons (ws_of (ps_setDc hc nd hy hyl hsw pi_wi ok hg (fun s H C cl fp => ⟨fun pins s' σ H' Q I h => h s H C cl fp pins s' I⟩) (fun s H C cl fp => ⟨fun pins s' σ H' Q I h => h s H C cl fp pins s' I⟩) (fun s H C cl fp => ⟨fun pins s' σ H' Q I h => h s H C cl fp pins s' I⟩) hs)
    (dc_read h hl hgt hi ht hk hv H (Xt.refl H) _ fun q H1 n y e => k q H1 n y e))
end
end K68

set_option Elab.async false
set_option linter.all false
set_option maxRecDepth 100000
set_option maxHeartbeats 4000000
/-! K68, text A5: comprehensions of two clauses without tests: dicts (turned from the layer's list of two clauses) and lists. -/
namespace K68
open PySem PySem.Spec L2
open PyProof.Rows hiding St
theorem turn_d2_out (kx vx t0 i0 t1 i1 : Expr) (scope : Scope) (pos : Pos) (it acc : Value) (env : Env) :
    compTurn (.DictComp kx vx [⟨t0, i0, [], 0⟩, ⟨t1, i1, [], 0⟩] scope pos) 0 it acc env = (do
      standAt i0.pos
      match ← pyNext it with
      | none => pure (.done .next)
      | some v =>
        letOwnedTupleGo t0 it v
        assign t0 env v
        let x ← eval i1 env
        standAt i1.pos
        let x ← foldedSetIterable i1 env x
        let _ ← runOwn (.compStart (.DictComp kx vx [⟨t0, i0, [], 0⟩, ⟨t1, i1, [], 0⟩] scope pos) 1 (← holding [x] (pyIter x)) acc env) env
        again (.compLoop (.DictComp kx vx [⟨t0, i0, [], 0⟩, ⟨t1, i1, [], 0⟩] scope pos) 0 it acc env)) := by rfl
theorem turn_d2_in (kx vx t0 i0 t1 i1 : Expr) (scope : Scope) (pos : Pos) (it : Value) (D : Addr) (env : Env) :
    compTurn (.DictComp kx vx [⟨t0, i0, [], 0⟩, ⟨t1, i1, [], 0⟩] scope pos) 1 it (.ref D) env = (do
      standAt i1.pos
      match ← pyNext it with
      | none => pure (.done .next)
      | some v =>
        letOwnedTupleGo t1 it v
        assign t1 env v
        (do
          let kv ← eval kx env
          let vv ← holding [kv] (eval vx env)
          standAt { kx.pos with endLine := vx.pos.endLine, endCol := vx.pos.endCol }
          holding [kv, vv] (dictSet D kv vv))
        again (.compLoop (.DictComp kx vx [⟨t0, i0, [], 0⟩, ⟨t1, i1, [], 0⟩] scope pos) 1 it (.ref D) env)) := by rfl
section
variable {prog : Program} {w : World} {A : Around} {R : Result → Shared → Prop} {s : Shared} {kx vx t0 i0 t1 i1 : Expr} {scope : Scope} {pos : Pos} {it acc : Value} {D : Addr} {env : Env}
theorem loop_d2_out (hs : ∀ x, foldedSetIterable i1 env x = pure x) (I : Nat → Shared → Prop)
    (turn : ∀ n s, I n s → wpAny (model prog w) A (pyNext it) (fun r s₁ => match r with
      | none => R (.ok .next) s₁
      | some v => wpAny (model prog w) A (letOwnedTupleGo t0 it v) (fun _ s₁' => wpAny (model prog w) A (assign t0 env v) (fun _ s₂ =>
            wpAny (model prog w) A (eval i1 env) (fun x s₄ => wpAny (model prog w) A (pyIter x) (fun it1 s₅ =>
              codeAny (model prog w) A (.compStart (.DictComp kx vx [⟨t0, i0, [], 0⟩, ⟨t1, i1, [], 0⟩] scope pos) 1 it1 acc env) (fun r s' => match r with
                | .ok _ => ∃ m, m < n ∧ I m s'
                | .error _ => False) s₅) (notedBy (model prog w) A env fun e s' => R (.error e) s') s₄) (notedBy (model prog w) A env fun e s' => R (.error e) s') s₂) (notedBy (model prog w) A env fun e s' => R (.error e) s') s₁') (notedBy (model prog w) A env fun e s' => R (.error e) s') s₁) (notedBy (model prog w) A env fun e s' => R (.error e) s') s)
    (n : Nat) (h : I n s) :
    codeAny (model prog w) A (.compLoop (.DictComp kx vx [⟨t0, i0, [], 0⟩, ⟨t1, i1, [], 0⟩] scope pos) 0 it acc env) R s := by
  refine codeAny_loop rfl I (fun n s hI => ?_) n h
  show wpAny _ A ((compTurn (.DictComp kx vx [⟨t0, i0, [], 0⟩, ⟨t1, i1, [], 0⟩] scope pos) 0 it acc env).onRaise (fun x => do noteFrame x env; theTreesLotGoes x)) _ _ s
  refine wpAny_noted ?_
  rw [turn_d2_out]
  refine wpAny_bind (wpAny_standAt (wpAny_bind (wpAny_mono (turn n s hI) (fun r s₁ h₁ => ?_) fun _ _ h' => h')))
  cases r with
  | none => exact wpAny_pure h₁
  | some v =>
    refine wpAny_bind (wpAny_mono h₁ (fun _ s₁' h₁' => ?_) fun _ _ h' => h')
    refine wpAny_bind (wpAny_mono h₁' (fun _ s₂ h₂ => ?_) fun _ _ h' => h')
    refine wpAny_bind (wpAny_mono h₂ (fun x s₄ h₄ => ?_) fun _ _ h' => h')
    refine wpAny_bind (wpAny_standAt (wpAny_bind (wpAny_of_eq (hs x) (wpAny_bind (wpAny_holding (wpAny_mono h₄ (fun it1 s₅ h₅ => ?_) fun _ _ h' => h'))))))
    refine wpAny_bind (wpAny_runOwn ?_)
    rw [Around.mark_none]
    refine codeAny_mono h₅ fun r s' hr => ?_
    cases r with
    | ok f =>
      first
        | exact wpAny_pure ⟨rfl, hr⟩
        | exact wpAny_bind (wpAny_pure (wpAny_pure ⟨rfl, hr⟩))
    | error e => exact hr.elim
theorem loop_d2_in (I : Nat → Shared → Prop)
    (turn : ∀ n s, I n s → wpAny (model prog w) A (pyNext it) (fun r s₁ => match r with
      | none => R (.ok .next) s₁
      | some v => wpAny (model prog w) A (letOwnedTupleGo t1 it v) (fun _ s₁' => wpAny (model prog w) A (assign t1 env v) (fun _ s₂ =>
            wpAny (model prog w) A (eval kx env) (fun kv s₃ => wpAny (model prog w) A (eval vx env) (fun vv s₄ =>
              wpAny (model prog w) A (dictSet D kv vv) (fun _ s₅ => ∃ m, m < n ∧ I m s₅) (notedBy (model prog w) A env fun e s' => R (.error e) s') s₄) (notedBy (model prog w) A env fun e s' => R (.error e) s') s₃) (notedBy (model prog w) A env fun e s' => R (.error e) s') s₂) (notedBy (model prog w) A env fun e s' => R (.error e) s') s₁') (notedBy (model prog w) A env fun e s' => R (.error e) s') s₁) (notedBy (model prog w) A env fun e s' => R (.error e) s') s)
    (n : Nat) (h : I n s) :
    codeAny (model prog w) A (.compLoop (.DictComp kx vx [⟨t0, i0, [], 0⟩, ⟨t1, i1, [], 0⟩] scope pos) 1 it (.ref D) env) R s := by
  refine codeAny_loop rfl I (fun n s hI => ?_) n h
  show wpAny _ A ((compTurn (.DictComp kx vx [⟨t0, i0, [], 0⟩, ⟨t1, i1, [], 0⟩] scope pos) 1 it (.ref D) env).onRaise (fun x => do noteFrame x env; theTreesLotGoes x)) _ _ s
  refine wpAny_noted ?_
  rw [turn_d2_in]
  refine wpAny_bind (wpAny_standAt (wpAny_bind (wpAny_mono (turn n s hI) (fun r s₁ h₁ => ?_) fun _ _ h' => h')))
  cases r with
  | none => exact wpAny_pure h₁
  | some v =>
    refine wpAny_bind (wpAny_mono h₁ (fun _ s₁' h₁' => ?_) fun _ _ h' => h')
    refine wpAny_bind (wpAny_mono h₁' (fun _ s₂ h₂ => ?_) fun _ _ h' => h')
    exact wpAny_bind (wpAny_bind (wpAny_mono h₂ (fun kv s₄ h₄ => wpAny_bind (wpAny_holding (wpAny_mono h₄ (fun vv s₅ h₅ => wpAny_bind (wpAny_standAt (wpAny_holding (wpAny_mono h₅ (fun _ s₆ h₆ => wpAny_pure ⟨rfl, h₆⟩) fun _ _ h' => h')))) fun _ _ h' => h'))) fun _ _ h' => h'))
theorem start_d2 (h0 : codeAny (model prog w) A (.compLoop (.DictComp kx vx [⟨t0, i0, [], 0⟩, ⟨t1, i1, [], 0⟩] scope pos) 1 it acc env) R s)
    (h : wpAny (model prog w) A (pyIter it) (fun it' s' => codeAny (model prog w) A (.compLoop (.DictComp kx vx [⟨t0, i0, [], 0⟩, ⟨t1, i1, [], 0⟩] scope pos) 1 it' acc env) R s')
      (notedBy (model prog w) A env fun x s' => R (.error x) s') s) :
    codeAny (model prog w) A (.compStart (.DictComp kx vx [⟨t0, i0, [], 0⟩, ⟨t1, i1, [], 0⟩] scope pos) 1 it acc env) R s := by
  refine codeAny_of_tree ?_
  show wpAny _ _ ((compStart (.DictComp kx vx [⟨t0, i0, [], 0⟩, ⟨t1, i1, [], 0⟩] scope pos) 1 it acc env).onRaise (fun x => do noteFrame x env; standAt theWindowsPlace)) _ _ s
  refine wpAny_notedAt ?_
  unfold compStart
  show wpAny _ _ (ask >>= _) _ _ s
  refine wpAny_bind (wpAny_askSetting (wpAny_ite ?_))
  split
  · first
      | exact wpAny_bind (wpAny_pure (wpAny_pure (And.intro rfl h0)))
      | exact wpAny_pure (And.intro rfl h0)
  · first
      | exact wpAny_bind (wpAny_rule (wpAny_bind (wpAny_standAt (wpAny_bind (wpAny_mono h (fun it' s' h' => wpAny_pure (And.intro rfl h')) fun _ _ x => x)))))
      | (refine wpAny_bind (wpAny_rule ?_); show wpAny _ _ (standAt i1.pos >>= _) _ _ s; exact wpAny_bind (wpAny_standAt (wpAny_bind (wpAny_mono h (fun it' s' h' => wpAny_pure (And.intro rfl h')) fun _ _ x => x))))
end
section
variable {M : Md} {X : Cx}
def tDc2 (wi : TI) (g : TG) (wi1 : TI) (g1 : TG) (tk tv : TE) (vs vs1 : List Nat) : TE := fun σ H Q => wi σ H fun J H1 => ∀ D, H1 D = none → ∃ W : Nat → Nat → Hp → Prop, (∃ m, W 0 m (upd H1 D (.dK []))) ∧ ∀ i m H, W i m H →
  (J.stop i H ∧ Q (.ref D) H) ∨ (J.go i H ∧ ∃ Nx : Hp → Prop, (∀ H', Nx H' → ∃ m', m' < m ∧ W (i + 1) m' H') ∧ ∀ x H', J.yld i H x H' → g x (wipe σ vs) H' fun σ2 H2 => wipe σ2 vs = wipe σ vs ∧
    wi1 σ2 H2 fun J1 H4 => ∃ W1 : Nat → Nat → Hp → Prop, (∃ m, W1 0 m H4) ∧ ∀ j k H, W1 j k H →
      (J1.stop j H ∧ Nx H) ∨ (J1.go j H ∧ ∃ Nx1 : Hp → Prop, (∀ H', Nx1 H' → ∃ k', k' < k ∧ W1 (j + 1) k' H') ∧ ∀ x H', J1.yld j H x H' → g1 x (wipe σ2 vs1) H' fun σ3 H5 => wipe σ3 vs1 = wipe σ2 vs1 ∧
        tk σ3 H5 fun y H6 => tv σ3 H6 fun z H7 => ∃ kvs k, y = kV k ∧ H7 D = some (.dK kvs) ∧ kvs.length < sizeLine ∧ Nx1 (upd H7 D (.dK (putK kvs k z)))))
theorem pe_dc2 {kx vx tg iter tg1 iter1 : Expr} {scope : Scope} {own : List (Str × Nat)} {vs1 : List Nat} {pos : Pos} {wi wi1 : TI} {g g1 : TG} {tk tv : TE} (hc : X.calm = true) (hN : X.N.Nodup) (hi : PI X tg iter wi) (ok : BlkOk X.N X.env.scope scope own) (hv : ∀ i ∈ vs1, i ∈ own.map (·.2))
    (hg : ∀ (s : Shared) (H : Hp) (C : Addr) (cl : List (Str × Addr)) (fp : List Addr), PG (X.blk s H scope (compEnvC scope cl C X.env) fp) tg g)
    (hi1 : ∀ (s : Shared) (H : Hp) (C : Addr) (cl : List (Str × Addr)) (fp : List Addr), PI (X.blk s H scope (compEnvC scope cl C X.env) fp) tg1 iter1 wi1)
    (hg1 : ∀ (s : Shared) (H : Hp) (C : Addr) (cl : List (Str × Addr)) (fp : List Addr), PG (X.blk s H scope (compEnvC scope cl C X.env) fp) tg1 g1)
    (hk : ∀ (s : Shared) (H : Hp) (C : Addr) (cl : List (Str × Addr)) (fp : List Addr), PE (X.blk s H scope (compEnvC scope cl C X.env) fp) kx tk)
    (he : ∀ (s : Shared) (H : Hp) (C : Addr) (cl : List (Str × Addr)) (fp : List Addr), PE (X.blk s H scope (compEnvC scope cl C X.env) fp) vx tv) (hs : ∀ x, foldedSetIterable iter X.env x = pure x := by intro _; rfl) (hs1 : ∀ env x, foldedSetIterable iter1 env x = pure x := by intro _ _; rfl) :
    PE X (.DictComp kx vx [⟨tg, iter, [], 0⟩, ⟨tg1, iter1, [], 0⟩] scope pos) (tDc2 wi g wi1 g1 tk tv (own.map (·.2)) vs1) := by
  refine ⟨fun pins s σ H Q I h => ?_⟩
  rw [arm_eval_DictComp]
  have hfree : ∀ y ∈ scope.names, y.2 = .free → ∃ c, X.env.cells.lookup y.1 = some c := fun y hy e => by
    rcases ok.free y hy e with k | k
    · exact I.ok.has _ (.inl k)
    · exact I.ok.has _ (.inr k)
  refine wpAny_comprehension_free (use := none) rfl hs (closure_ok hfree) ok.kind (fun y hy e => by rw [ok.uniq y hy, e])
    (thn (hi.run pins s σ H _ I h) fun xv s1 hx => thn hx fun itv s2 h2 => ?_)
  obtain ⟨it, fp, tn, J, H2, e, I2, T, st2, f2, q⟩ := h2
  subst e
  refine wpAny_newObj_type (newEnv_comp ?_)
  generalize hD : s2.heap.objs.size = D
  have hDn : H2 D = none := I2.hok.fresh (Nat.le_of_eq hD)
  obtain ⟨W, ⟨m0, w0⟩, turn⟩ := q D hDn
  generalize hs3 : ({ s2 with heap := s2.heap.push { cls := .type "dict", data := .dict #[] } } : Shared) = s3
  have I3 : Inv X pins σ (upd H2 D (.dK [])) s3 := by
    rw [← hs3]
    refine I2.laid (t' := s2.toks) (fun b o e => Heap.get?_push_of_some _ e) (Nat.le_of_eq hD) ?_
    rw [← hD]
    exact dk_empty s2.heap I2.big
  have h3 : s3.heap = s2.heap.push { cls := .type "dict", data := .dict #[] } := by rw [← hs3]
  have sz : ∀ b ∈ fp, b < s2.heap.objs.size := fun b hb => by
    obtain ⟨o, e, _⟩ := T.obj _ _ st2 b hb
    exact Heap.lt_size e
  have f3 : ∀ b ∈ fp, FpOk X pins (upd H2 D (.dK [])) b ∧ b < s3.heap.objs.size := fun b hb => by
    have hlt := sz b hb
    refine ⟨⟨?_, (f2 b hb).2⟩, by rw [h3, Heap.size_push]; exact Nat.lt_succ_of_lt hlt⟩
    rw [upd_ne (by rw [← hD]; exact Nat.ne_of_lt hlt)]
    exact (f2 b hb).1
  have st3 : tn 0 s3.heap := T.keep _ _ _ st2 fun b _ o e => by rw [h3]; exact Heap.get?_push_of_some _ e
  have I4 := block_start I3 ok hN f3
  have pg := hg s3 (upd H2 D (.dK [])) s3.heap.objs.size (cellsFrom (s3.heap.objs.size + 1) scope.names (cloFrom X.env.cells scope.names [])) fp
  have pk := hk s3 (upd H2 D (.dK [])) s3.heap.objs.size (cellsFrom (s3.heap.objs.size + 1) scope.names (cloFrom X.env.cells scope.names [])) fp
  have pe := he s3 (upd H2 D (.dK [])) s3.heap.objs.size (cellsFrom (s3.heap.objs.size + 1) scope.names (cloFrom X.env.cells scope.names [])) fp
  have pi1 := hi1 s3 (upd H2 D (.dK [])) s3.heap.objs.size (cellsFrom (s3.heap.objs.size + 1) scope.names (cloFrom X.env.cells scope.names [])) fp
  have pg1 := hg1 s3 (upd H2 D (.dK [])) s3.heap.objs.size (cellsFrom (s3.heap.objs.size + 1) scope.names (cloFrom X.env.cells scope.names [])) fp
  show codeAny _ _ (.compStart (.DictComp kx vx [⟨tg, iter, [], 0⟩, ⟨tg1, iter1, [], 0⟩] scope pos) 0 (.ref it) (.ref D) (compEnvC scope (cellsFrom (s3.heap.objs.size + 1) scope.names (cloFrom X.env.cells scope.names [])) s3.heap.objs.size X.env)) (compPost (model X.prog X.w) X.A X.xe none (EP X pins σ Q) (.ref D) s3.heap.objs.size) { s3 with heap := pushCells (s3.heap.push { cls := .type "dict", data := .dict #[] }) scope.names }
  have nfp : ∀ b ∈ fp, (upd H2 D (.dK [])) b = none := fun b hb => (f3 b hb).1.1
  generalize hce : compEnvC scope (cellsFrom (s3.heap.objs.size + 1) scope.names (cloFrom X.env.cells scope.names [])) s3.heap.objs.size X.env = ce at I4 pg pk pe pi1 pg1 ⊢
  have cL : ce.locals = s3.heap.objs.size := by subst hce; rfl
  generalize hH3 : upd H2 D (.dK []) = H3 at I3 I4 pg pk pe pi1 pg1 w0 nfp f3
  generalize hs4 : ({ s3 with heap := pushCells (s3.heap.push { cls := .type "dict", data := .dict #[] }) scope.names } : Shared) = s4 at I4 ⊢
  have st4 : tn 0 s4.heap := T.keep _ _ _ st3 fun b _ o e => by rw [← hs4]; exact pushCells_keeps _ _ _ _ (Heap.get?_push_of_some _ e)
  have stat : ∀ {σ' : L2.St} {H' : Hp} {s' : Shared}, Inv (X.blk s3 H3 scope ce fp) [] σ' H' s' → (∀ b ∈ fp, H' b = none) → ∀ b ∈ fp, FpOk (X.blk s3 H3 scope ce fp) [] H' b := fun {σ' H' s'} I' hn b hb =>
    ⟨hn b hb, (I'.ok.exf b hb).1, I'.ok.exfs b hb, .inl hb, fun x c e => (I'.ok.exf b hb).2 x c e, fun p hp => absurd (show p ∈ ([] : List (Addr × Obj)) ++ [] from hp) (by simp)⟩
  have loop : codeAny (model X.prog X.w) X.A (.compLoop (.DictComp kx vx [⟨tg, iter, [], 0⟩, ⟨tg1, iter1, [], 0⟩] scope pos) 0 (.ref it) (.ref D) ce) (compPost (model X.prog X.w) X.A X.xe none (EP X pins σ Q) (.ref D) s3.heap.objs.size) s4 := by
    refine loop_d2_out (hs1 ce) (fun n s' => ∃ i H', Inv (X.blk s3 H3 scope ce fp) [] (wipe σ (own.map (·.2))) H' s' ∧ tn i s'.heap ∧ (∀ b ∈ fp, H' b = none) ∧ W i n H') ?_ m0 ⟨0, H3, I4, st4, nfp, w0⟩
    rintro n s5 ⟨i, H5, I5, st5, n5, w5⟩
    rcases turn i n H5 w5 with ⟨stop, qq⟩ | ⟨go, Nx, hNx, step⟩
    · have td := T.done (X.blk s3 H3 scope ce fp) rfl rfl rfl hc i [] s5 _ H5 (fun _ _ => False) I5 (stat I5 n5) st5 stop
      refine thnF td fun r s6 ⟨hr, I6⟩ => ?_
      subst hr
      have I7 : Inv X pins σ H5 s6 := I3.call' (ch := fp) I6.os I6.base I6.hok I6.bare fun b hb => ⟨(f3 b hb).1.2.2.2.1, (f3 b hb).1.2.1, (f3 b hb).1.2.2.2.2.1, (f3 b hb).1.2.2.2.2.2⟩
      have nC : H5 s3.heap.objs.size = none := by
        have z : H5 ce.locals = none := I6.free
        rw [cL] at z
        exact z
      obtain ⟨m, hn, _⟩ := I6.loc
      have hn : s6.heap.Ns ce.locals m := hn
      rw [cL] at hn
      obtain ⟨f0, f1, f2', f3', f4, f5⟩ := I3.fpOk (Nat.le_refl _) nC
      exact ⟨m, hn, fun h'' sb => ⟨.ref D, H5, I7.turned (t' := s6.toks) (fun b o hb e => (sb.2 b hb).trans e) f0 f1 f3' f4 f5, rfl, qq⟩⟩
    · have ti := T.item (X.blk s3 H3 scope ce fp) rfl rfl rfl hc i [] s5 _ H5 (fun _ _ => False) I5 (stat I5 n5) st5 go
      refine thnF ti fun r s6 ⟨u, hr, h6⟩ => ?_
      subst hr
      refine thnF h6 fun _ s7 ⟨x, H7, I7, r7, y7, st7, n7⟩ => ?_
      have I7' := I7.pinned (stat I7 n7) (T.obj _ _ st7)
      refine thnF (pg.run _ s7 _ H7 x u _ I7' r7 (step x H7 y7)) fun _ s9 ⟨σ8, H9, I9, hw8, q9⟩ => ?_
      have fin : ∀ {σ9 : L2.St} {s' : Shared} {H' : Hp}, Inv (X.blk s3 H3 scope ce fp) ([] ++ pinsAt fp s7.heap) σ9 H' s' → (wipe σ (own.map (·.2))).length = σ9.length → (∀ (j : Nat) v, (wipe σ (own.map (·.2)))[j]? = some (some v) → σ9[j]? = some (some v)) → Nx H' →
          ∃ m, m < n ∧ ∃ i H', Inv (X.blk s3 H3 scope ce fp) [] (wipe σ (own.map (·.2))) H' s' ∧ tn i s'.heap ∧ (∀ b ∈ fp, H' b = none) ∧ W i m H' := fun {σ9 s' H'} I' hl hk nx => by
        obtain ⟨m', hm, w'⟩ := hNx H' nx
        have pin' : ∀ b ∈ fp, ∀ o, s7.heap.get? b = some o → s'.heap.get? b = some o ∧ H' b = none := fun b hb o e =>
          let z := I'.pin (b, o) (List.mem_append_right _ (List.mem_append_right _ (mem_pinsAt hb e)))
          ⟨z.1, z.2.1⟩
        refine ⟨m', hm, i + 1, H', (I'.unpinned (pins := [])).weak hl hk, T.keep _ _ _ st7 fun b hb o e => (pin' b hb o e).1, fun b hb => ?_, w'⟩
        obtain ⟨o, e, _⟩ := T.obj _ _ st7 b hb
        exact (pin' b hb o e).2
      have hl8 : (wipe σ (own.map (·.2))).length = σ8.length := by rw [← hw8, wipe_length]
      have hk9 : ∀ (j : Nat) v, (wipe σ (own.map (·.2)))[j]? = some (some v) → (wipe σ8 vs1)[j]? = some (some v) := fun j v e => by
        rw [← hw8] at e
        obtain ⟨e1, e2⟩ := wipe_some e
        rw [wipe_out fun z => e2 (hv j z)]
        exact e1
      refine thnF (pi1.run _ s9 σ8 H9 _ I9 q9) fun xv s10 hx => thnF hx fun itv s11 h11 => ?_
      obtain ⟨it1, fp1, tn1, J1, H11, e1, I11, T1, st11, f11, W1, ⟨m1, w1⟩, turn1⟩ := h11
      subst e1
      have stat1 : ∀ {H' : Hp}, (∀ b ∈ fp1, H' b = none) → ∀ b ∈ fp1, FpOk (X.blk s3 H3 scope ce fp) ([] ++ pinsAt fp s7.heap) H' b := fun hn b hb => ⟨hn b hb, (f11 b hb).2⟩
      have loop1 : codeAny (model X.prog X.w) X.A (.compLoop (.DictComp kx vx [⟨tg, iter, [], 0⟩, ⟨tg1, iter1, [], 0⟩] scope pos) 1 (.ref it1) (.ref D) ce)
          (fun r s' => match r with
            | .ok _ => ∃ m, m < n ∧ ∃ i H', Inv (X.blk s3 H3 scope ce fp) [] (wipe σ (own.map (·.2))) H' s' ∧ tn i s'.heap ∧ (∀ b ∈ fp, H' b = none) ∧ W i m H'
            | .error _ => False) s11 := by
        refine loop_d2_in (fun k s' => ∃ j H', Inv (X.blk s3 H3 scope ce fp) ([] ++ pinsAt fp s7.heap) (wipe σ8 vs1) H' s' ∧ tn1 j s'.heap ∧ (∀ b ∈ fp1, H' b = none) ∧ W1 j k H') ?_ m1 ⟨0, H11, I11.weak (wipe_length _ _) (fun j v e => (wipe_some e).1), st11, fun b hb => (f11 b hb).1, w1⟩
        rintro k s12 ⟨j, H12, I12, st12, n12, w12⟩
        rcases turn1 j k H12 w12 with ⟨stop1, nx1⟩ | ⟨go1, Nx1, hNx1, step1⟩
        · refine thnF (T1.done (X.blk s3 H3 scope ce fp) rfl rfl rfl hc j _ s12 (wipe σ8 vs1) H12 (fun _ _ => False) I12 (stat1 n12) st12 stop1) fun r s13 ⟨hr, I13⟩ => ?_
          subst hr
          exact fin I13 (hl8.trans (wipe_length σ8 vs1).symm) hk9 nx1
        · refine thnF (T1.item (X.blk s3 H3 scope ce fp) rfl rfl rfl hc j _ s12 (wipe σ8 vs1) H12 (fun _ _ => False) I12 (stat1 n12) st12 go1) fun r s13 ⟨u1, hr, h13⟩ => ?_
          subst hr
          refine thnF h13 fun _ s14 ⟨x1, H14, I14, r14, y14, st14, n14⟩ => ?_
          have I14' := I14.pinned (stat1 n14) (T1.obj _ _ st14)
          refine thnF (pg1.run _ s14 (wipe σ8 vs1) H14 x1 u1 _ I14' r14 (step1 x1 H14 y14)) fun _ s16 ⟨σ15, H16, I16, hw15, q16⟩ => ?_
          have fin1 : ∀ {s' : Shared} {H' : Hp}, Inv (X.blk s3 H3 scope ce fp) (([] ++ pinsAt fp s7.heap) ++ pinsAt fp1 s14.heap) σ15 H' s' → Nx1 H' → ∃ m, m < k ∧ ∃ j H', Inv (X.blk s3 H3 scope ce fp) ([] ++ pinsAt fp s7.heap) (wipe σ8 vs1) H' s' ∧ tn1 j s'.heap ∧ (∀ b ∈ fp1, H' b = none) ∧ W1 j m H' := fun {s' H'} I' nx => by
            obtain ⟨m', hm, w'⟩ := hNx1 H' nx
            have pin' : ∀ b ∈ fp1, ∀ o, s14.heap.get? b = some o → s'.heap.get? b = some o ∧ H' b = none := fun b hb o e =>
              let z := I'.pin (b, o) (List.mem_append_right _ (List.mem_append_right _ (mem_pinsAt hb e)))
              ⟨z.1, z.2.1⟩
            refine ⟨m', hm, j + 1, H', I'.unpinned.weak (by rw [← hw15, wipe_length]) (fun j v e => by rw [← hw15] at e; exact (wipe_some e).1), T1.keep _ _ _ st14 fun b hb o e => (pin' b hb o e).1, fun b hb => ?_, w'⟩
            obtain ⟨o, e, _⟩ := T1.obj _ _ st14 b hb
            exact (pin' b hb o e).2
          refine thnF (pk.run _ s16 σ15 H16 _ I16 q16) fun z s17 ⟨yk, H17, I17, r17, q17⟩ => ?_
          refine thnF (pe.run _ s17 σ15 H17 _ I17 q17) fun z2 s18 ⟨yv, H18, I18, r18, kvs, kk, ek, hD18, hz18, nx⟩ => ?_
          subst ek
          exact d_dictSet (X := X.blk s3 H3 scope ce fp) I18 hD18 hz18 r17 r18 fun s19 I19 => fin1 I19 nx
      exact start_d2 loop1 (T1.self X.A 0 _ _ _ st11 loop1)
  exact codeAny_compStart_dict loop (T.self X.A 0 _ _ _ st4 loop)
end

/-! ### their readings: inner clauses over whole numbers -/
section
variable {M : Md} {X : Cx} {σ : L2.St} {H : Hp} {scope : Scope} {β : Type} {tg it tg1 it1 elt : Expr} {g : TG} {vs : List Nat} {j1 : Nat}
def JBI (M : Md) (X : Cx) (scope : Scope) (tg e : Expr) (σ : L2.St) (H : Hp) (ds : List PyData) : Prop := ∀ (s0 : Shared) (H0 : Hp) (C : Addr) (cl : List (Str × Addr)) (fp : List Addr), JI M (X.blk s0 H0 scope (compEnvC scope cl C X.env) fp) tg e σ H ds
theorem flat_step {β γ : Type} {bs : List β} {f : β → List γ} {i : Nat} {b : β} (h : bs[i]? = some b) : (bs.take (i + 1)).flatMap f = (bs.take i).flatMap f ++ f b := by
  rw [List.take_add_one, h, Option.toList_some, List.flatMap_append]
  simp
theorem flat_take {β γ : Type} (bs : List β) (f : β → List γ) (i : Nat) : ((bs.take i).flatMap f).length ≤ (bs.flatMap f).length := by
  have h : (bs.take i ++ bs.drop i).flatMap f = (bs.take i).flatMap f ++ (bs.drop i).flatMap f := List.flatMap_append
  rw [List.take_append_drop] at h
  rw [h, List.length_append]
  omega
theorem flat_part {β γ : Type} {bs : List β} {f : β → List γ} {i j : Nat} {b : β} (h : bs[i]? = some b) : ((bs.take i).flatMap f ++ (f b).take j).length ≤ (bs.flatMap f).length := by
  have h1 := flat_take bs f (i + 1)
  rw [flat_step h, List.length_append] at h1
  rw [List.length_append, List.length_take]
  omega
theorem take_snoc {γ : Type} {xs : List γ} {j : Nat} {c : γ} (h : xs[j]? = some c) : xs.take (j + 1) = xs.take j ++ [c] := by
  rw [List.take_add_one, h, Option.toList_some]
theorem dc2_read {bs : List β} {enc : β → PyData} {cs : β → List Int} {Gd : β → L2.St → Hp → Prop} {kx vx : Expr} (h : JIx M X tg it σ H (bs.map enc)) (hl : (bs.flatMap cs).length ≤ 1000000) (hgt : TgOk M H σ g vs bs enc Gd) (him : M.i H)
    (hgm : ∀ H1 H2 b σ2, Tm H1 H2 → Gd b σ2 H1 → Gd b σ2 H2) (hw1 : ∀ σ2 (v : V), wipe ((wipe σ2 [j1]).set j1 (some v)) [j1] = wipe σ2 [j1])
    (hi : ∀ H1 b σ2, Xt M H H1 → b ∈ bs → Gd b σ2 H1 → JBI M X scope tg1 it1 σ2 H1 ((cs b).map .int))
    (hk : ∀ H1 b σ2 c, Xt M H H1 → b ∈ bs → Gd b σ2 H1 → c ∈ cs b → JBK M X scope kx ((wipe σ2 [j1]).set j1 (some (.int c))) H1 (kI c)) (hv : ∀ H1 σ2, JBK M X scope vx σ2 H1 (kB true)) :
    ∀ H0, Xt M H H0 → ∀ Q : VK, (∀ p H2, H0 p = none → Xt M H0 H2 → H2 p = some (.dK (putAll (bs.flatMap cs))) → Q (.ref p) H2) → tDc2 (WI X tg it) g (BI X scope tg1 it1) (gName j1) (BE X scope kx) (BE X scope vx) vs [j1] σ H0 Q := by
  intro H0 x Q q
  refine h H0 x _ fun J Kp H1 y ok k0 => ?_
  intro Dl hD
  have hm0 : ¬ M.m Dl := M.new ((x.trans y).inv him) hD
  have hlen : (bs.map enc).length = bs.length := List.length_map _
  refine ⟨fun i m H' => m = bs.length - i ∧ i ≤ bs.length ∧ Xt M H1 H' ∧ H' Dl = some (.dK (putAll ((bs.take i).flatMap cs))), ⟨bs.length, by simp, Nat.zero_le _, Xt.new hD, upd_same⟩, ?_⟩
  rintro i m H' ⟨rfl, hi', z, ed⟩
  have kp := ok.up _ _ z k0
  by_cases hlt : i < bs.length
  · refine .inr ⟨ok.goes i H' kp (by rw [hlen]; exact hlt), fun H2 => Xt M H1 H2 ∧ H2 Dl = some (.dK (putAll ((bs.take (i + 1)).flatMap cs))), fun H2 p' => ⟨bs.length - (i + 1), by omega, rfl, hlt, p'⟩, fun v H2 yy => ?_⟩
    obtain ⟨rfl, d, hd, r⟩ := ok.yld i H' v H2 kp (by rw [hlen]; exact hlt) yy
    have hb : bs[i]? = some bs[i] := by simp [hlt]
    rw [List.getElem?_map, hb] at hd
    have hd : enc bs[i] = d := Option.some.inj hd
    subst hd
    have hm : bs[i] ∈ bs := List.getElem_mem hlt
    have e := flat_step (f := cs) hb
    refine hgt H2 bs[i] v _ ((x.trans y).trans z) hm r fun σ2 hw gd => ⟨hw, ?_⟩
    intro s0 H0' C cl fp
    refine hi H2 bs[i] σ2 ((x.trans y).trans z) hm gd s0 H0' C cl fp H2 (Xt.refl H2) _ fun J1 Kp1 H4 t ok1 k1 stb => ?_
    generalize hB : bs[i] = B at *
    have hlen1 : ((cs B).map PyData.int).length = (cs B).length := List.length_map _
    refine ⟨fun j k H5 => k = (cs B).length - j ∧ j ≤ (cs B).length ∧ Xt M H1 H5 ∧ Tm H4 H5 ∧ H5 Dl = some (.dK (putAll ((bs.take i).flatMap cs ++ (cs B).take j))), ⟨(cs B).length, by simp, Nat.zero_le _, z.trans t, Tm.refl _, by rw [List.take_zero, List.append_nil]; exact t.keep _ _ ed (nt_dK _) hm0⟩, ?_⟩
    rintro j k H5 ⟨rfl, hj, z5, t5, ed5⟩
    have kp1 := stb _ _ t5 k1
    by_cases hlt1 : j < (cs B).length
    · refine .inr ⟨ok1.goes j H5 kp1 (by rw [hlen1]; exact hlt1), fun H6 => Xt M H1 H6 ∧ Tm H4 H6 ∧ H6 Dl = some (.dK (putAll ((bs.take i).flatMap cs ++ (cs B).take (j + 1)))), fun H6 p' => ⟨(cs B).length - (j + 1), by omega, rfl, hlt1, p'⟩, fun v1 H6 yy1 => ?_⟩
      obtain ⟨rfl, d1, hd1, r1⟩ := ok1.yld j H5 v1 H6 kp1 (by rw [hlen1]; exact hlt1) yy1
      have hb1 : (cs B)[j]? = some (cs B)[j] := by simp [hlt1]
      rw [List.getElem?_map, hb1] at hd1
      have hd1 : PyData.int (cs B)[j] = d1 := Option.some.inj hd1
      subst hd1
      have hm1 : (cs B)[j] ∈ cs B := List.getElem_mem hlt1
      have ev : v1 = .int (cs B)[j] := kI_eq r1
      refine ⟨hw1 σ2 v1, ?_⟩
      rw [ev]
      intro s0 H0' C cl fp
      refine hk H6 B σ2 _ ((x.trans y).trans z5) hm (hgm _ _ _ _ (t.tm.trans t5) gd) hm1 s0 H0' C cl fp H6 (Xt.refl H6) _ fun w H7 t7 kw => ?_
      intro s0 H0' C cl fp
      refine hv H7 _ s0 H0' C cl fp H7 (Xt.refl H7) _ fun w2 H8 t8 kw2 => ?_
      have ed8 := t8.keep _ _ (t7.keep _ _ ed5 (nt_dK _) hm0) (nt_dK _) hm0
      refine ⟨_, Sum.inl (cs B)[j], kI_eq kw, ed8, ?_, ((z5.trans t7).trans t8).mut hD, ?_, ?_⟩
      · have h1 := putAll_len ((bs.take i).flatMap cs ++ (cs B).take j)
        have h2 := flat_part (f := cs) (j := j) hb
        exact Nat.lt_of_lt_of_le (show _ < 1000001 by omega) (by decide)
      · exact ((t5.trans t7.tm).trans t8.tm).trans (Tm.dK ed8)
      · rw [take_snoc hb1, ← List.append_assoc, putAll_app, kB_eq kw2]
        exact upd_same
    · have ej : j = (cs B).length := by omega
      subst ej
      refine .inl ⟨by have := ok1.stops H5 kp1; rw [hlen1] at this; exact this, z5, ?_⟩
      rw [e]
      rw [List.take_length] at ed5
      exact ed5
  · have ei : i = bs.length := by omega
    subst ei
    refine .inl ⟨by have := ok.stops H' kp; rw [hlen] at this; exact this, ?_⟩
    rw [List.take_length] at ed
    exact q Dl H' (y.free _ hD) (y.trans z) ed
theorem j_dc2 {bs : List β} {enc : β → PyData} {cs : β → List Int} {Gd : β → L2.St → Hp → Prop} {kx vx : Expr} {own : List (Str × Nat)} {pos : Pos} (hc : X.calm = true) (nd : X.N.Nodup) (ok : BlkOk X.N X.env.scope scope own) (hv1 : j1 ∈ own.map (·.2))
    (hg : ∀ (s : Shared) (H : Hp) (C : Addr) (cl : List (Str × Addr)) (fp : List Addr), PG (X.blk s H scope (compEnvC scope cl C X.env) fp) tg g)
    (hg1 : ∀ (s : Shared) (H : Hp) (C : Addr) (cl : List (Str × Addr)) (fp : List Addr), PG (X.blk s H scope (compEnvC scope cl C X.env) fp) tg1 (gName j1))
    (h : JIx M X tg it σ H (bs.map enc)) (hl : (bs.flatMap cs).length ≤ 1000000) (hgt : TgOk M H σ g (own.map (·.2)) bs enc Gd) (him : M.i H := by first | exact trivial | assumption)
    (hgm : ∀ H1 H2 b σ2, Tm H1 H2 → Gd b σ2 H1 → Gd b σ2 H2) (hw1 : ∀ σ2 (v : V), wipe ((wipe σ2 [j1]).set j1 (some v)) [j1] = wipe σ2 [j1])
    (hi : ∀ H1 b σ2, Xt M H H1 → b ∈ bs → Gd b σ2 H1 → JBI M X scope tg1 it1 σ2 H1 ((cs b).map .int))
    (hk : ∀ H1 b σ2 c, Xt M H H1 → b ∈ bs → Gd b σ2 H1 → c ∈ cs b → JBK M X scope kx ((wipe σ2 [j1]).set j1 (some (.int c))) H1 (kI c)) (hv : ∀ H1 σ2, JBK M X scope vx σ2 H1 (kB true))
    (hs : ∀ x, foldedSetIterable it X.env x = pure x := by intro _; rfl) (hs1 : ∀ env x, foldedSetIterable it1 env x = pure x := by intro _ _; rfl) : JDK M X (.DictComp kx vx [⟨tg, it, [], 0⟩, ⟨tg1, it1, [], 0⟩] scope pos) σ H (putAll (bs.flatMap cs)) := fun H0 x Q q =>
  we_of (pe_dc2 (vs1 := [j1]) hc nd pi_wi ok (fun i m => by rw [List.mem_singleton.mp m]; exact hv1) hg (fun s H C cl fp => ⟨fun pins s' σ H' Q I h => h s H C cl fp pins s' I⟩) hg1 (fun s H C cl fp => ⟨fun pins s' σ H' Q I h => h s H C cl fp pins s' I⟩) (fun s H C cl fp => ⟨fun pins s' σ H' Q I h => h s H C cl fp pins s' I⟩) hs hs1) (dc2_read h hl hgt him hgm hw1 hi hk hv H0 x Q q)
theorem gd1_tm {enc : β → PyData} {i : Nat} {H1 H2 : Hp} {b : β} {σ2 : L2.St} (t : Tm H1 H2) (h : Gd1 σ vs i enc b σ2 H1) : Gd1 σ vs i enc b σ2 H2 := by
  obtain ⟨v, r, e⟩ := h
  exact ⟨v, Rp.tm t _ r, e⟩
theorem gd2_tm {e1 e2 : β → PyData} {i j : Nat} {H1 H2 : Hp} {b : β} {σ2 : L2.St} (t : Tm H1 H2) (h : Gd2 σ vs i j e1 e2 b σ2 H1) : Gd2 σ vs i j e1 e2 b σ2 H2 := by
  obtain ⟨v, w, r, r2, e⟩ := h
  exact ⟨v, w, Rp.tm t _ r, Rp.tm t _ r2, e⟩
end
end K68

set_option Elab.async false
set_option linter.all false
set_option maxRecDepth 100000
set_option maxHeartbeats 4000000
/-! K68, text A7: any, all of generator expressions. -/
namespace K68
open PySem PySem.Spec L2 GenW
open PyProof.Rows hiding St
/-- the same but for the generators, what was drawn, the tokens -/
structure Same (s s' : Shared) : Prop where
  heap : s'.heap = s.heap
  os : s'.os = s.os
  bare : AllBare s'.gens
/-- a generator expression's own context: s, H: when it was made -/
abbrev gcx (X : Cx) (s : Shared) (H : Hp) (cenv : Env) (fp : List Addr) (A' : Around) (pn : List (Addr × Obj)) : Cx := { X with A := A', s_0 := s, H_0 := H, env := cenv, outer := X.stack, stack := cenv :: X.stack, ex := fp, fn := fun _ => false, calm := true, pn := pn, xe := fun _ _ => False }
/-- any such -/
abbrev gany (X : Cx) (scope : Scope) (s0 : Shared) (H0 : Hp) (cl : List (Str × Addr)) (C : Addr) (code : Value) (bi : Addr) (fp : List Addr) (A' : Around) (pn : List (Addr × Obj)) : Cx := gcx X s0 H0 (genEnv scope cl C code bi X.env) fp A' pn
section
variable {X : Cx} {pins : List (Addr × Obj)} {σ : L2.St} {H H' : Hp} {s s' : Shared}
theorem Inv.same (I : Inv X pins σ H s) (z : Same s s') : Inv X pins σ H s' := by
  obtain ⟨h, g, d, t, o⟩ := s'
  obtain ⟨e1, e2, e3⟩ := z
  have e1 : h = s.heap := e1
  have e2 : o = s.os := e2
  subst e1 e2
  exact ⟨I.ok, I.os, e3, I.base, I.loc, I.cell, I.free, I.freeC, I.pin, I.hok, I.len⟩
theorem gen_start {scope : Scope} {own : List (Str × Nat)} {fp : List Addr} {A' : Around} {h' : Heap} {m : Str → Option Value} {go : Obj} {gs : Array GenState} {tk : Nat} {code : Value}
    (I : Inv X pins σ H s) (ok : BlkOk X.N X.env.scope scope own) (hN : X.N.Nodup) (hcell : ∀ y ∈ scope.names, y.2 ≠ .cell) (hfp : ∀ b ∈ fp, FpOk X pins H b ∧ b < s.heap.objs.size)
    (hA : A'.handled = none) (hfr : A'.frames = some (genEnv scope (cloFrom X.env.cells scope.names []) s.heap.objs.size code builtinsNs X.env :: X.stack))
    (hn : h'.Ns s.heap.objs.size m) (hs : Heap.SameBut s.heap.objs.size (s.heap.push { cls := .type "frame", data := .dict #[] }) h')
    (hgo : ∀ v, go.data ≠ .cell v) (hgp : (h'.push go).get? h'.objs.size = some go) (hgs : AllBare gs) :
    Inv (gcx X s H (genEnv scope (cloFrom X.env.cells scope.names []) s.heap.objs.size code builtinsNs X.env) fp A' [(h'.objs.size, go)]) [] (wipe σ (own.map (·.2))) H { s with gens := gs, toks := tk, heap := h'.push go } := by
  have hfree : ∀ y ∈ scope.names, y.2 = .free → ∃ c, X.env.cells.lookup y.1 = some c := fun y hy e => by
    rcases ok.free y hy e with k | k
    · exact I.ok.has _ (.inl k)
    · exact I.ok.has _ (.inr k)
  generalize hcenv : genEnv scope (cloFrom X.env.cells scope.names []) s.heap.objs.size code builtinsNs X.env = cenv at hfr ⊢
  have hsz : h'.objs.size = s.heap.objs.size + 1 := by rw [hs.1, Heap.size_push]
  have kp : ∀ b o, s.heap.get? b = some o → (h'.push go).get? b = some o := fun b o e => Heap.get?_push_of_some _ (hs.extBut b o (Nat.ne_of_lt (Heap.lt_size e)) (Heap.get?_push_of_some _ e))
  have hL : cenv.locals = s.heap.objs.size := by rw [← hcenv]; rfl
  have hcl : cenv.cells = cloFrom X.env.cells scope.names [] := by rw [← hcenv]; rfl
  have hsc : cenv.scope = scope := by rw [← hcenv]; rfl
  have cm : ∀ {y c}, (y, c) ∈ cloFrom X.env.cells scope.names [] → X.env.cells.lookup y = some c ∧ c < s.heap.objs.size := fun {y c} hm => by
    rcases cloFrom_mem hm with hm | ⟨h1, rfl⟩
    · cases hm
    · obtain ⟨c, hc⟩ := hfree _ h1 rfl
      rw [hc]
      obtain ⟨w, z⟩ := I.cell _ _ hc
      exact ⟨rfl, z.lt⟩
  have mem : ∀ {y c}, cenv.cells.lookup y = some c → X.env.cells.lookup y = some c ∧ c < s.heap.objs.size := fun {y c} e => by
    rw [hcl] at e
    exact cm (PySem.mem_of_lookup e)
  have look : ∀ {y}, scope.names.lookup y = some .free → ∃ c, cenv.cells.lookup y = some c ∧ X.env.cells.lookup y = some c := fun {y} hl => by
    have hy : (y, NameKind.free) ∈ scope.names := PySem.mem_of_lookup hl
    obtain ⟨c', e'⟩ := mem_lookup (cloFrom_has (cells := X.env.cells) (acc := []) hy)
    refine ⟨c', by rw [hcl]; exact e', (cm (PySem.mem_of_lookup e')).1⟩
  have stk : ∀ b ∈ frs X.stack, b < s.heap.objs.size := fun b hb => by
    obtain ⟨_, o, ho, _⟩ := I.stack.mem hb
    exact Heap.lt_size ho
  have okB : (gcx X s H cenv fp A' [(h'.objs.size, go)]).Ok := by
    refine ⟨I.ok.mod, by show cenv.scope.kind = _; rw [hsc]; exact ok.kind, by show cenv.globals = _; rw [← hcenv]; exact I.ok.glob, by show cenv.builtins = _; rw [← hcenv]; rfl, by show s.heap.objs.size ≤ cenv.locals; rw [hL]; exact Nat.le_refl _,
      fun y z c e1 e2 => I.ok.inj y z c (mem (show cenv.cells.lookup y = some c from e1)).1 (mem (show cenv.cells.lookup z = some c from e2)).1, fun y hy => ?_, fun y c z e => (by cases z), fun _ => hA, hfr, .inr ⟨rfl, by show cenv.frame = some cenv.locals; rw [← hcenv]; rfl⟩, fun b hb => ⟨?_, fun y c e z => ?_⟩, I.bs, Nat.le_trans I.ok.bsz I.sz, fun b o e hb => ?_, fun b hb z => ?_, I.stack, I.stkFree⟩
    · have hy : cenv.scope.names.lookup y = some .cell ∨ cenv.scope.names.lookup y = some .free := hy
      rw [hsc] at hy
      rcases hy with hy | hy
      · exact absurd rfl (hcell _ (PySem.mem_of_lookup hy))
      · obtain ⟨c, h1, _⟩ := look hy
        exact ⟨c, h1⟩
    · show b ≠ cenv.locals
      rw [hL]; exact Nat.ne_of_lt (hfp b hb).2
    · exact (hfp b hb).1.2.2.2.2.1 y c (mem (show cenv.cells.lookup y = some c from e)).1 z
    · rcases (hfp b hb).1.2.2.2.1 with z | z
      · exact I.ok.noex b o e z
      · exact absurd (Nat.lt_of_lt_of_le (Heap.lt_size e) (Nat.le_trans I.ok.bsz z)) (Nat.lt_irrefl _)
    · rcases List.mem_cons.mp (I.stkSub b z) with z | z
      · exact (hfp b hb).1.2.1 z
      · exact (hfp b hb).1.2.2.1 z
  refine ⟨okB, rfl, hgs, Un.kept kp, ⟨m, ?_, fun i y av e1 e2 e3 => ?_⟩, fun y c e => ?_, ?_, fun y c e => ?_, fun p hp => ?_, I.hok.kept kp, by rw [wipe_length]; exact I.len⟩
  · show Heap.Ns _ cenv.locals _
    rw [hL]
    exact Heap.Ns.keeps hn fun b o e => Heap.get?_push_of_some _ e
  · obtain ⟨e2, hne⟩ := wipe_some e2
    have e3 : Vis cenv.scope y := e3
    rw [hsc] at e3
    have hfr : scope.names.lookup y = some .free := by
      have no : ∀ k', scope.names.lookup y = some k' → ¬ (k' = .local ∨ k' = .cell) := fun k' e hh => by
        rcases ok.own _ (PySem.mem_of_lookup e) hh with e' | e'
        · obtain ⟨p, hp, hpy⟩ := List.mem_map.mp e'
          have e3 := ok.ix p hp
          have : p.1 = y := hpy
          rw [this] at e3
          exact hne (List.mem_map.mpr ⟨p, hp, nodup_ix hN e3 e1⟩)
        · exact e' (List.mem_of_getElem? e1)
      rcases e3 with e3 | e3 | e3
      · exact absurd (.inl rfl) (no _ e3)
      · exact absurd (.inr rfl) (no _ e3)
      · exact e3
    obtain ⟨m, hn, hl⟩ := I.loc
    have hvis : Vis X.env.scope y := (ok.free _ (PySem.mem_of_lookup hfr) rfl).elim (fun k => .inr (.inl k)) (fun k => .inr (.inr k))
    obtain ⟨w, r, q⟩ := hl i y av e1 e2 hvis
    refine ⟨w, r, .inr ⟨.inr (by show cenv.scope.names.lookup y = _; rw [hsc]; exact hfr), ?_⟩⟩
    obtain ⟨c, h1, h2⟩ := look hfr
    rcases q with ⟨k, _⟩ | ⟨_, c', e', z⟩
    · have k : X.env.scope.names.lookup y = some .local := k
      rcases ok.free _ (PySem.mem_of_lookup hfr) rfl with k' | k' <;> rw [show X.env.scope.names.lookup y = _ from k'] at k <;> cases k
    · rw [h2] at e'; cases e'
      exact ⟨c, h1, z.keeps kp⟩
  · obtain ⟨w, z⟩ := I.cell y c (mem (show cenv.cells.lookup y = some c from e)).1
    exact ⟨w, z.keeps kp⟩
  · show H cenv.locals = none
    rw [hL]; exact I.hok.fresh (Nat.le_refl _)
  · exact I.freeC y c (mem (show cenv.cells.lookup y = some c from e)).1
  · have hp : p ∈ [(h'.objs.size, go)] ++ [] := hp
    rw [List.append_nil] at hp
    rw [List.mem_singleton.mp hp]
    refine ⟨hgp, I.hok.fresh (by omega), ?_, fun z => ?_, hgo⟩
    · show h'.objs.size ≠ cenv.locals
      rw [hL]; omega
    · have := stk _ z
      have this : h'.objs.size < s.heap.objs.size := this
      omega
end

/-! ### the consumers -/
section
variable {prog : Program} {w : World} {A : Around} {I : Addr}
theorem loop_all (ts : List Bool) (St : Nat → Shared → Prop) (Fi : Shared → Prop)
    (item : ∀ i s b, ts[i]? = some b → St i s → wpAny (model prog w) A.in1 (pyNext (.ref I)) (fun r s' => r = some (.bool b) ∧ St (i + 1) s') (fun _ _ => False) s)
    (done : ∀ s, St ts.length s → wpAny (model prog w) A.in1 (pyNext (.ref I)) (fun r s' => r = none ∧ Fi s') (fun _ _ => False) s) (fin : ∀ i s, St i s → Fi s) :
    ∀ (k i : Nat) (s : Shared), ts.length - i = k → i ≤ ts.length → St i s → codeAny (model prog w) A (.builtin "all.loop" ⟨[.ref I], []⟩) (fun r s' => r = .ok (.ret (.bool ((ts.drop i).all id))) ∧ Fi s') s := by
  intro k
  induction k with
  | zero =>
    intro i s hk hi hst
    have hin : i = ts.length := by omega
    subst hin
    refine codeAny_builtin F.entry_all_loop ?_
    rw [Around.under_plainId F.plain_all_loop _]
    show wpAny _ A.in1 (pyNext (.ref I) >>= _) _ _ s
    refine wpAny_bind (wpAny_mono (done s hst) (fun r s' h => ?_) fun _ _ e => e.elim)
    obtain ⟨rfl, hf⟩ := h
    refine wpAny_bind (wpAny_rule (wpAny_pure ?_))
    rw [List.drop_of_length_le (Nat.le_refl _)]
    exact ⟨rfl, hf⟩
  | succ k ih =>
    intro i s hk hi hst
    have hlt : i < ts.length := by omega
    have hd : ts.drop i = ts[i] :: ts.drop (i + 1) := List.drop_eq_getElem_cons hlt
    refine codeAny_builtin F.entry_all_loop ?_
    rw [Around.under_plainId F.plain_all_loop _]
    show wpAny _ A.in1 (pyNext (.ref I) >>= _) _ _ s
    refine wpAny_bind (wpAny_mono (item i s ts[i] (by simp [hlt]) hst) (fun r s' h => ?_) fun _ _ e => e.elim)
    obtain ⟨rfl, hst'⟩ := h
    refine wpAny_bind (wpAny_holding (wpAny_truthy_bool ?_))
    refine wpAny_bind (wpAny_letGo ?_)
    cases hb : ts[i] with
    | true =>
      simp only [if_true]
      refine wpAny_pure ⟨plainId_quiet F.plain_all_loop _, codeAny_mono (ih (i + 1) _ (by omega) hlt hst') fun r s'' h => ?_⟩
      obtain ⟨rfl, hf⟩ := h
      rw [hd, List.all_cons, hb]
      exact ⟨rfl, hf⟩
    | false =>
      simp only [Bool.false_eq_true, if_false]
      refine wpAny_bind (wpAny_rule (wpAny_pure ?_))
      rw [hd, List.all_cons, hb]
      exact ⟨rfl, fin _ _ hst'⟩
theorem loop_any (ts : List Bool) (St : Nat → Shared → Prop) (Fi : Shared → Prop)
    (item : ∀ i s b, ts[i]? = some b → St i s → wpAny (model prog w) A.in1 (pyNext (.ref I)) (fun r s' => r = some (.bool b) ∧ St (i + 1) s') (fun _ _ => False) s)
    (done : ∀ s, St ts.length s → wpAny (model prog w) A.in1 (pyNext (.ref I)) (fun r s' => r = none ∧ Fi s') (fun _ _ => False) s) (fin : ∀ i s, St i s → Fi s) :
    ∀ (k i : Nat) (s : Shared), ts.length - i = k → i ≤ ts.length → St i s → codeAny (model prog w) A (.builtin "any.loop" ⟨[.ref I], []⟩) (fun r s' => r = .ok (.ret (.bool ((ts.drop i).any id))) ∧ Fi s') s := by
  intro k
  induction k with
  | zero =>
    intro i s hk hi hst
    have hin : i = ts.length := by omega
    subst hin
    refine codeAny_builtin F.entry_any_loop ?_
    rw [Around.under_plainId F.plain_any_loop _]
    show wpAny _ A.in1 (pyNext (.ref I) >>= _) _ _ s
    refine wpAny_bind (wpAny_mono (done s hst) (fun r s' h => ?_) fun _ _ e => e.elim)
    obtain ⟨rfl, hf⟩ := h
    refine wpAny_bind (wpAny_rule (wpAny_pure ?_))
    rw [List.drop_of_length_le (Nat.le_refl _)]
    exact ⟨rfl, hf⟩
  | succ k ih =>
    intro i s hk hi hst
    have hlt : i < ts.length := by omega
    have hd : ts.drop i = ts[i] :: ts.drop (i + 1) := List.drop_eq_getElem_cons hlt
    refine codeAny_builtin F.entry_any_loop ?_
    rw [Around.under_plainId F.plain_any_loop _]
    show wpAny _ A.in1 (pyNext (.ref I) >>= _) _ _ s
    refine wpAny_bind (wpAny_mono (item i s ts[i] (by simp [hlt]) hst) (fun r s' h => ?_) fun _ _ e => e.elim)
    obtain ⟨rfl, hst'⟩ := h
    refine wpAny_bind (wpAny_holding (wpAny_truthy_bool ?_))
    refine wpAny_bind (wpAny_letGo ?_)
    cases hb : ts[i] with
    | false =>
      simp only [Bool.false_eq_true, if_false]
      refine wpAny_pure ⟨plainId_quiet F.plain_any_loop _, codeAny_mono (ih (i + 1) _ (by omega) hlt hst') fun r s'' h => ?_⟩
      obtain ⟨rfl, hf⟩ := h
      rw [hd, List.any_cons, hb]
      exact ⟨rfl, hf⟩
    | true =>
      simp only [if_true]
      refine wpAny_bind (wpAny_rule (wpAny_pure ?_))
      rw [hd, List.any_cons, hb]
      exact ⟨rfl, fin _ _ hst'⟩
end

/-! ### the generator -/
/-- asleep, or at its end: what its maker needs -/
def SlG (P : Program) (w : World) (fs fp : List Addr) (H1 : Hp) (s4 : Shared) (a : Addr) (go : Obj) (s : Shared) : Prop :=
  ∃ H', s.os = s4.os ∧ AllBare s.gens ∧ Un fs fp H1 H' s4.heap s.heap ∧ HOk P w H' s.heap ∧ Xt M0 H1 H' ∧ s.heap.get? a = some go ∧ s.heap.NoLimit
def YB (ts : List Bool) (Sl : Shared → Prop) : Protocol := fun m s₀ v s kap => ∃ j b, m + 1 + j = ts.length ∧ ts[j]? = some b ∧ v = .bool b ∧ Sl s ∧ ∀ s', Same s s' → kap (.send .none) s'
abbrev RB (Sl : Shared → Prop) : GenEnd := fun n s₀ r s => r = .ok .next ∧ (n = 0 ∧ Sl s)
theorem slG_of {X : Cx} {s4 s : Shared} {H1 H' : Hp} {cenv : Env} {fp : List Addr} {A' : Around} {a : Addr} {go : Obj} {pins : List (Addr × Obj)} {σ : L2.St} (I : Inv (gcx X s4 H1 cenv fp A' [(a, go)]) pins σ H' s) (x : Xt M0 H1 H') : SlG X.prog X.w (frs X.stack) fp H1 s4 a go s :=
  ⟨H', I.os, I.bare, I.base, I.hok, x, (I.pin (a, go) (List.mem_append_left _ (List.mem_singleton.mpr rfl))).1, I.nolimit⟩
theorem slG_heap {P : Program} {w : World} {fs fp : List Addr} {H1 : Hp} {s4 : Shared} {a : Addr} {go : Obj} {s s' : Shared} (h : SlG P w fs fp H1 s4 a go s) (ho : s'.os = s.os) (hb : AllBare s'.gens) (hk : ∀ b o, s.heap.get? b = some o → s'.heap.get? b = some o) : SlG P w fs fp H1 s4 a go s' := by
  obtain ⟨H', h1, h2, h3, h4, h5, h6, h7⟩ := h
  exact ⟨H', ho.trans h1, hb, h3.trans (Un.kept hk), h4.kept hk, h5, hk _ _ h6, h7.keeps hk⟩
theorem same_refl {s : Shared} (h : AllBare s.gens) : Same s s := ⟨rfl, rfl, h⟩
section
variable {X : Cx} {σ : L2.St} {H1 : Hp} {s4 : Shared} {β : Type} {tg iter elt : Expr} {scope : Scope} {pos : Pos} {g : TG} {vs : List Nat} {J : It} {Kp : Hp → Prop} {fp : List Addr} {it a : Addr} {go : Obj} {tn : Nat → Heap → Prop} {cenv : Env} {Ag : Around} {bs : List β} {enc : β → PyData} {t : β → Bool} {Gd : β → L2.St → Hp → Prop}
theorem seg_g1 (T : Turn X.prog X.w X.K tg J fp it tn) (ok : ItOk M0 J Kp (bs.map enc)) (k0 : Kp H1) (ha : ∀ b ∈ fp, a ≠ b) (hco : cenv.scope.isCoroutine = false)
    (hg : PG (gcx X s4 H1 cenv fp (Ag.over (.compLoop (.GeneratorExp elt [⟨tg, iter, [], 0⟩] scope pos) 0 (.ref it) .none cenv) []) [(a, go)]) tg g) (hgt : TgOk M0 H1 σ g vs bs enc Gd)
    (he : ∀ H' b σ2, Xt M0 H1 H' → b ∈ bs → Gd b σ2 H' → JK M0 (gcx X s4 H1 cenv fp (Ag.over (.compLoop (.GeneratorExp elt [⟨tg, iter, [], 0⟩] scope pos) 0 (.ref it) .none cenv) []) [(a, go)]) elt σ2 H' (kB (t b))) :
    ∀ (k i : Nat) (s₀ s : Shared) (H' : Hp), bs.length - i = k → i ≤ bs.length → Inv (gcx X s4 H1 cenv fp (Ag.over (.compLoop (.GeneratorExp elt [⟨tg, iter, [], 0⟩] scope pos) 0 (.ref it) .none cenv) []) [(a, go)]) [] (wipe σ vs) H' s → tn i s.heap → (∀ b ∈ fp, H' b = none) → Xt M0 H1 H' →
      Seg (model X.prog X.w) Ag (RB (SlG X.prog X.w (frs X.stack) fp H1 s4 a go)) (YB (bs.map t) (SlG X.prog X.w (frs X.stack) fp H1 s4 a go)) ((bs.map t).length - i) s₀
        (.compLoop (.GeneratorExp elt [⟨tg, iter, [], 0⟩] scope pos) 0 (.ref it) .none cenv)
        ((model X.prog X.w).den (.compLoop (.GeneratorExp elt [⟨tg, iter, [], 0⟩] scope pos) 0 (.ref it) .none cenv)) [] s := by
  have hlen : (bs.map enc).length = bs.length := List.length_map _
  have hlt' : (bs.map t).length = bs.length := List.length_map _
  have stat : ∀ {σ' : L2.St} {H' : Hp} {s' : Shared}, Inv (gcx X s4 H1 cenv fp (Ag.over (.compLoop (.GeneratorExp elt [⟨tg, iter, [], 0⟩] scope pos) 0 (.ref it) .none cenv) []) [(a, go)]) [] σ' H' s' → (∀ b ∈ fp, H' b = none) → ∀ b ∈ fp, FpOk (gcx X s4 H1 cenv fp (Ag.over (.compLoop (.GeneratorExp elt [⟨tg, iter, [], 0⟩] scope pos) 0 (.ref it) .none cenv) []) [(a, go)]) [] H' b := fun {σ' H' s'} I' hn b hb =>
    ⟨hn b hb, (I'.ok.exf b hb).1, I'.ok.exfs b hb, .inl hb, fun x c e => (I'.ok.exf b hb).2 x c e, fun p hp => by
      have hp : p ∈ [(a, go)] ++ [] := hp
      rw [List.append_nil] at hp
      rw [List.mem_singleton.mp hp]
      exact ha b hb⟩
  intro k
  induction k with
  | zero =>
    intro i s₀ s H' hk hi I st nf x
    have hin : i = bs.length := by omega
    subst hin
    have kp := ok.up _ _ x k0
    show Seg _ Ag _ _ _ s₀ _ ((compTurn (.GeneratorExp elt [⟨tg, iter, [], 0⟩] scope pos) 0 (.ref it) .none cenv).onRaise (leaving cenv)) [] s
    rw [compTurn_gen, Sem.onRaise_eq_wrap]
    refine seg_bind_wrap (wpAny_standAt ?_)
    refine seg_bind_wrap (wpAny_mono (T.done (gcx X s4 H1 cenv fp (Ag.over (.compLoop (.GeneratorExp elt [⟨tg, iter, [], 0⟩] scope pos) 0 (.ref it) .none cenv) []) [(a, go)]) rfl rfl rfl rfl bs.length [] s _ H' (fun _ _ => False) I (stat I nf) st (by have := ok.stops H' kp; rw [hlen] at this; exact this)) (fun r s1 h => ?_) fun _ _ e => e.elim)
    obtain ⟨rfl, I1⟩ := h
    exact seg_end (.ok .next) ⟨rfl, by omega, slG_of I1 x⟩
  | succ k ih =>
    intro i s₀ s H' hk hi I st nf x
    have hlt : i < bs.length := by omega
    have kp := ok.up _ _ x k0
    show Seg _ Ag _ _ _ s₀ _ ((compTurn (.GeneratorExp elt [⟨tg, iter, [], 0⟩] scope pos) 0 (.ref it) .none cenv).onRaise (leaving cenv)) [] s
    rw [compTurn_gen, Sem.onRaise_eq_wrap]
    refine seg_bind_wrap (wpAny_standAt ?_)
    refine seg_bind_wrap (wpAny_mono (T.item (gcx X s4 H1 cenv fp (Ag.over (.compLoop (.GeneratorExp elt [⟨tg, iter, [], 0⟩] scope pos) 0 (.ref it) .none cenv) []) [(a, go)]) rfl rfl rfl rfl i [] s _ H' (fun _ _ => False) I (stat I nf) st (ok.goes i H' kp (by rw [hlen]; exact hlt))) (fun r s1 h => ?_) fun _ _ e => e.elim)
    obtain ⟨u, rfl, h6⟩ := h
    refine seg_bind_wrap (wpAny_mono h6 (fun _ s7 h => ?_) fun _ _ e => e.elim)
    obtain ⟨v, H7, I7, r7, y7, st7, n7⟩ := h
    obtain ⟨rfl, d, hd, r⟩ := ok.yld i H' v H7 kp (by rw [hlen]; exact hlt) y7
    have hb : bs[i]? = some bs[i] := by simp [hlt]
    rw [List.getElem?_map, hb] at hd
    have hd : enc bs[i] = d := Option.some.inj hd
    subst hd
    have hm : bs[i] ∈ bs := List.getElem_mem hlt
    have I7' := I7.pinned (stat I7 n7) (T.obj _ _ st7)
    refine seg_bind_wrap (wpAny_mono (hg.run _ s7 _ H7 v u _ I7' r7 (hgt H7 bs[i] v (fun σ2 H2 => wipe σ2 vs = wipe σ vs ∧ H2 = H7 ∧ Gd bs[i] σ2 H7) x hm r fun σ2 hw gd => ⟨hw, rfl, gd⟩)) (fun _ s8 h => ?_) fun _ _ e => e.elim)
    obtain ⟨σ2, H2, I8, hw, rfl, gd⟩ := h
    refine seg_bind_wrap (wpAny_of_eq (a := true) rfl ?_)
    simp only [if_true]
    have hy : ∀ v, yieldOut cenv v = yieldValue v := fun v => by simp only [yieldOut, hco, Bool.false_eq_true, if_false]
    simp only [hy]
    rw [Sem.bind_eq_wrap', Sem.bind_eq_wrap', Sem.wrap_wrap, Sem.wrap_wrap]
    obtain ⟨m, hm1⟩ : ∃ m, (bs.map t).length - i = m + 1 := ⟨(bs.map t).length - i - 1, by omega⟩
    rw [hm1]
    refine seg_wrap (wpAny_mono (he H2 bs[i] σ2 x hm gd H2 (Xt.refl H2) (fun y H9 => y = .bl (t bs[i]) ∧ Xt M0 H2 H9) (fun y H9 z ky => ⟨kB_eq ky, z⟩) _ s8 I8) (fun y s9 h => ?_) fun _ _ e => e.elim)
    obtain ⟨yv, H9, I9, ry, rfl, z9⟩ := h
    have ry : y = .bool (t bs[i]) := ry
    subst ry
    have pin' : ∀ b ∈ fp, ∀ o, s7.heap.get? b = some o → s9.heap.get? b = some o ∧ H9 b = none := fun b hb o e =>
      let z := I9.pin (b, o) (List.mem_append_right _ (List.mem_append_right _ (mem_pinsAt hb e)))
      ⟨z.1, z.2.1⟩
    have I10 := (I9.unpinned (pins := [])).weak (σ' := wipe σ vs) (by rw [← hw, wipe_length]) (fun j v e => by rw [← hw] at e; exact (wipe_some e).1)
    have st9 : tn (i + 1) s9.heap := T.keep _ _ _ st7 fun b hb o e => (pin' b hb o e).1
    have n9 : ∀ b ∈ fp, H9 b = none := fun b hb => by
      obtain ⟨o, e, _⟩ := T.obj _ _ st7 b hb
      exact (pin' b hb o e).2
    refine seg_at (seg_yield rfl rfl rfl ⟨i, t bs[i], by omega, by rw [List.getElem?_map, hb]; rfl, rfl, slG_of I10 (x.trans z9), fun s'' hs => ?_⟩)
    have e : m = (bs.map t).length - (i + 1) := by omega
    rw [e]
    exact seg_again rfl (ih (i + 1) s'' s'' H9 (by omega) hlt (Inv.same I10 hs) (by rw [hs.heap]; exact st9) n9 (x.trans z9))
theorem seg_g1s (T : Turn X.prog X.w X.K tg J fp it tn) {n : Nat} {s₀ s : Shared} {R : GenEnd} {Y : Protocol} (st : tn 0 s.heap)
    (h : Seg (model X.prog X.w) Ag R Y n s₀ (.compLoop (.GeneratorExp elt [⟨tg, iter, [], 0⟩] scope pos) 0 (.ref it) .none cenv)
        ((model X.prog X.w).den (.compLoop (.GeneratorExp elt [⟨tg, iter, [], 0⟩] scope pos) 0 (.ref it) .none cenv)) [] s) :
      Seg (model X.prog X.w) Ag R Y n s₀ (.compStart (.GeneratorExp elt [⟨tg, iter, [], 0⟩] scope pos) 0 (.ref it) .none cenv)
        ((model X.prog X.w).den (.compStart (.GeneratorExp elt [⟨tg, iter, [], 0⟩] scope pos) 0 (.ref it) .none cenv)) [] s := by
  show Seg _ Ag _ _ _ s₀ _ ((compStart (.GeneratorExp elt [⟨tg, iter, [], 0⟩] scope pos) 0 (.ref it) .none cenv).onRaise (leaving cenv)) [] s
  unfold compStart
  rw [Sem.onRaise_eq_wrap]
  show Seg _ Ag _ _ _ s₀ _ ((ask >>= _).wrap _ _ _ _) [] s
  refine seg_bind_wrap (wpAny_askSetting ?_)
  split
  · exact seg_again rfl h
  · first
      | exact seg_bind_wrap (wpAny_rule (seg_bind_wrap (wpAny_standAt (seg_bind_wrap (T.self _ 0 s _ _ st (seg_again rfl h))))))
      | (refine seg_bind_wrap (wpAny_rule ?_); show Seg _ Ag _ _ _ s₀ _ ((standAt iter.pos >>= _).wrap _ _ _ _) [] s; exact seg_bind_wrap (wpAny_standAt (seg_bind_wrap (T.self _ 0 s _ _ st (seg_again rfl h)))))
end

/-! ### the generator seen by its consumer -/
section
variable {prog : Program} {w : World} {A : Around} {ts : List Bool} {fs fp : List Addr} {H1 : Hp} {s4 : Shared} {a : Addr} {go : Obj} {g : Nat}
/-- i items are out -/
def StG (prog : Program) (w : World) (A : Around) (ts : List Bool) (fs fp : List Addr) (H1 : Hp) (s4 : Shared) (a : Addr) (go : Obj) (g : Nat) (i : Nat) (s : Shared) : Prop :=
  ∃ gs, s.gens[g]? = some gs ∧ SlG prog w fs fp H1 s4 a go s ∧ ∀ s', Same s s' → gs.Goes (model prog w) A.in1 (RB (SlG prog w fs fp H1 s4 a go)) (YB ts (SlG prog w fs fp H1 s4 a go)) (ts.length - i) (.send .none) s'
theorem stG_item (hh : A.handled = none) (hd : A.depth < recursionLimit) (hgen : ∀ h : Heap, h.get? a = some go → h.IsGen a g) :
    ∀ i s b, ts[i]? = some b → StG prog w A ts fs fp H1 s4 a go g i s → wpAny (model prog w) A (pyNext (.ref a)) (fun r s' => r = some (.bool b) ∧ StG prog w A ts fs fp H1 s4 a go g (i + 1) s') (fun _ _ => False) s := by
  rintro i s b hb ⟨gs, hgs, sl, hgo⟩
  have hi : i < ts.length := (List.getElem?_eq_some_iff.mp hb).1
  obtain ⟨m, hm⟩ : ∃ m, ts.length - i = m + 1 := ⟨ts.length - i - 1, by omega⟩
  rw [hm] at hgo
  have hgl : g < s.gens.size := (Array.getElem?_eq_some_iff.mp hgs).1
  have sl0 := sl
  obtain ⟨H', q1, q2, q3, q4, q5, q6, q7⟩ := sl
  refine wpAny_gsz (n := g + 1) hgl (wpAny_pyNext_genexpQ (P := fun n s₀ s₁ => n = 0 ∧ SlG prog w fs fp H1 s4 a go s₁) hh q7 hd (hgen _ q6) hgs (hgo _ ⟨rfl, rfl, allBare_setGen q2 rfl⟩) (fun v s₁ gs' hbare hv => ?_) (fun s₁ hp h' hk => ?_))
  · intro hsz
    obtain ⟨j, b', e1, e2, rfl, sl1, kap⟩ := hv
    have ej : j = i := by omega
    subst ej
    rw [hb] at e2
    cases e2
    have hsz1 : g < s₁.gens.size := by
      have q : (s₁.setGen g gs').gens.size = s₁.gens.size := setGen_size _ _ _
      have hsz' : g + 1 ≤ (s₁.setGen g gs').gens.size := hsz
      omega
    have b1 : AllBare s₁.gens := by obtain ⟨_, _, z, _⟩ := sl1; exact z
    refine ⟨rfl, gs', setGen_at hsz1, slG_heap sl1 rfl (allBare_setGen b1 hbare) (fun _ _ e => e), fun s' hs => ?_⟩
    have e : ts.length - (j + 1) = m := by omega
    rw [e]
    exact kap s' ⟨hs.heap, hs.os, hs.bare⟩
  · exact absurd hp.1 (Nat.succ_ne_zero m)
theorem stG_done (hh : A.handled = none) (hd : A.depth < recursionLimit) (hgen : ∀ h : Heap, h.get? a = some go → h.IsGen a g) :
    ∀ s, StG prog w A ts fs fp H1 s4 a go g ts.length s → wpAny (model prog w) A (pyNext (.ref a)) (fun r s' => r = none ∧ SlG prog w fs fp H1 s4 a go s') (fun _ _ => False) s := by
  rintro s ⟨gs, hgs, sl, hgo⟩
  rw [Nat.sub_self] at hgo
  have hgl : g < s.gens.size := (Array.getElem?_eq_some_iff.mp hgs).1
  obtain ⟨H', q1, q2, q3, q4, q5, q6, q7⟩ := sl
  refine wpAny_pyNext_genexpQ (P := fun n s₀ s₁ => n = 0 ∧ SlG prog w fs fp H1 s4 a go s₁) hh q7 hd (hgen _ q6) hgs (hgo _ ⟨rfl, rfl, allBare_setGen q2 rfl⟩) (fun v s₁ gs' hbare hv => ?_) (fun s₁ hp h' hk => ?_)
  · obtain ⟨j, b', e1, e2, rfl, sl1, kap⟩ := hv
    obtain ⟨_, _, z, _⟩ := sl1
    exact False.elim (kap s₁ (same_refl z))
  · have b1 : AllBare s₁.gens := by obtain ⟨_, _, _, z, _⟩ := hp; exact z
    exact ⟨rfl, slG_heap hp.2 rfl (allBare_setGen b1 rfl) hk⟩
end
end K68

set_option Elab.async false
set_option linter.all false
set_option maxRecDepth 100000
set_option maxHeartbeats 4000000
/-! K68, text A8: any, all of generator expressions: the calls. -/
namespace K68
open PySem PySem.Spec L2 GenW
open PyProof.Rows hiding St
theorem eval_gen (elt target iter : Expr) (rest : List Comprehension) (scope : Scope) (pos : Pos) (env : Env) (hco : scope.isCoroutine = false) :
    eval (.GeneratorExp elt (⟨target, iter, [], 0⟩ :: rest) scope pos) env = (do
      let x ← eval iter env
      standAt iter.pos
      let x ← genFold iter env x
      let it ← holding [x] (pyIter x)
      enterFrame
      let cl ← closureFor scope env
      let code ← genexprCode env pos (env.qual ++ "<genexpr>") scope
      let bi ← builtinsFor env.globals env.builtins
      let cenv ← newFunctionEnv scope env.globals cl [(".0", it)] (env.qual ++ "<genexpr>.") none code none bi
      newGenerator (.compStart (.GeneratorExp elt (⟨target, iter, [], 0⟩ :: rest) scope pos) 0 it .none cenv) "<genexpr>" (env.qual ++ "<genexpr>")) := by
  rw [arm_eval_GeneratorExp]
  simp only [hco, Bool.false_eq_true, if_false]
  cases iter <;> rfl
theorem gen_make {M : Model} {A : Around} {E : Value → Shared → Prop} {s : Shared} {env : Env} {elt target iter : Expr} {rest : List Comprehension} {scope : Scope} {cl : List (Str × Addr)} {pos : Pos} {Q : Value → Shared → Prop}
    (hco : scope.isCoroutine = false) (hclos : closureFor scope env = pure cl) (hcell : ∀ y ∈ scope.names, y.2 ≠ .cell) (h0 : scope.names.lookup (".0" : Str) = some NameKind.local) (hkind : scope.kind = .function)
    (hroom : A.depth < recursionLimit)
    (h : wpAny M A (eval iter env) (fun xv s₁ => wpAny M A (pyIter xv) (fun it s₂ => s₂.heap.NoLimit ∧
      wpAny M A (genexprCode env pos (env.qual ++ "<genexpr>") scope) (fun code s₃ => wpAny M A (builtinsFor env.globals env.builtins) (fun bi s₄ =>
        ∀ h', h'.Ns s₄.heap.objs.size (fun y => if y = ".0" then some it else none) → Heap.SameBut s₄.heap.objs.size (s₄.heap.push { cls := .type "frame", data := .dict #[] }) h' →
          Q (.ref h'.objs.size) { s₄ with
            gens := s₄.gens.push (.fresh (.compStart (.GeneratorExp elt (⟨target, iter, [], 0⟩ :: rest) scope pos) 0 it .none (genEnv scope cl s₄.heap.objs.size code bi env))),
            toks := s₄.toks + 1 + 1 + 1,
            heap := h'.push { cls := .type "generator", data := .fields #[.int s₄.gens.size 0, .str "<genexpr>" (s₄.toks + 1), .str (env.qual ++ "<genexpr>") (s₄.toks + 1 + 1)] } }) E s₃) E s₂) E s₁) E s)
    (hs : ∀ x, genFold iter env x = pure x) :
    wpAny M A (eval (.GeneratorExp elt (⟨target, iter, [], 0⟩ :: rest) scope pos) env) Q E s := by
  rw [eval_gen _ _ _ _ _ _ _ hco, hclos]
  refine wpAny_bind (wpAny_mono h (fun xv s₁ h₁ => ?_) fun _ _ e => e)
  refine wpAny_bind (wpAny_standAt ?_)
  refine wpAny_bind (wpAny_of_eq (hs xv) ?_)
  refine wpAny_bind (wpAny_holding (wpAny_mono h₁ (fun it s₂ h₂ => ?_) fun _ _ e => e))
  refine wpAny_bind (wpAny_enterFrame h₂.1 hroom ?_)
  refine wpAny_bind (wpAny_pure ?_)
  refine wpAny_bind (wpAny_mono h₂.2 (fun code s₃ h₃ => ?_) fun _ _ e => e)
  refine wpAny_bind (wpAny_mono h₃ (fun bi s₄ h₄ => ?_) fun _ _ e => e)
  have hbinds : ∀ y ∈ ([((".0" : Str), it)] : List (Str × Value)), scope.names.lookup y.1 = some NameKind.local := by
    intro y hy
    rcases List.mem_cons.mp hy with rfl | hy
    · exact h0
    · cases hy
  refine wpAny_bind (wpAny_newFunctionEnv hcell hbinds (fun h' hn' hs' => ?_) hkind)
  have e : (fun y : Str => ([((".0" : Str), it)] : List (Str × Value)).reverse.lookup y) = fun y : Str => if y = (".0" : Str) then some it else none := by
    funext y
    by_cases hy : y = ".0"
    · subst hy; simp
    · have : (y == (".0" : Str)) = false := by simpa using hy
      simp [List.lookup, this, hy]
  rw [e] at hn'
  simp only [newGenerator, newFields]
  refine wpAny_bind (wpAny_newGen (wpAny_bind (wpAny_mkText (wpAny_bind (wpAny_mkText (wpAny_newObj_type ?_ (by size_fits)))))))
  exact h₄ h' hn' hs'
/-- a generator expression's scope -/
structure GOk (X : Cx) (scope : Scope) (own : List (Str × Nat)) : Prop where
  blk : BlkOk X.N X.env.scope scope own
  co : scope.isCoroutine = false
  cell : ∀ y ∈ scope.names, y.2 ≠ .cell
  dot : scope.names.lookup (".0" : Str) = some NameKind.local
section
variable {X : Cx} {pins : List (Addr × Obj)} {σ : L2.St} {H : Hp} {s : Shared}
/-- it has been made: s4 ahead of its frame, H2 the heap (the table may have grown) -/
structure Made (X : Cx) (pins : List (Addr × Obj)) (σ : L2.St) (scope : Scope) (tg : Expr) (J : It) (H2 : Hp) (s5 : Shared) (mk : Value → Env → Code) (it : Addr) (fp : List Addr) (tn : Nat → Heap → Prop) (s4 : Shared) (code : Value) (h' : Heap) (go : Obj) (m : Str → Option Value) (tk : Nat) : Prop where
  turn : Turn X.prog X.w X.K tg J fp it tn
  tn0 : tn 0 s4.heap
  inv : Inv X pins σ H2 s4
  fpOk : ∀ b ∈ fp, FpOk X pins H2 b ∧ b < s4.heap.objs.size
  ns : h'.Ns s4.heap.objs.size m
  same : Heap.SameBut s4.heap.objs.size (s4.heap.push { cls := .type "frame", data := .dict #[] }) h'
  gen : ∀ h : Heap, h.get? h'.objs.size = some go → h.IsGen h'.objs.size s4.gens.size
  gc : ∀ v, go.data ≠ .cell v
  gp : (h'.push go).get? h'.objs.size = some go
  is : s5 = { s4 with gens := s4.gens.push (.fresh (mk (.ref it) (genEnv scope (cloFrom X.env.cells scope.names []) s4.heap.objs.size code builtinsNs X.env))), toks := tk, heap := h'.push go }
theorem gen_eval {c P : Addr} {elt tg iter : Expr} {rest : List Comprehension} {scope : Scope} {own : List (Str × Nat)} {gpos : Pos} {wi : TI} {k : Nat} {Q' : Value → Shared → Prop} {RR : It → Hp → Prop}
    (hr : Room k X.A) (TB : GxR.TabB X.base X.mg c P) (hcode : X.env.code = .ref c) (G : GOk X scope own) (hi : PI X tg iter wi) (hs : ∀ v, genFold iter X.env v = pure v)
    (I : Inv X pins σ H s) (h : wi σ H fun J H1 => GxR.TabG H1 P ∧ RR J H1)
    (hQ : ∀ J H1 H2 it fp tn s4 code h' go m tk s5, RR J H1 → GxR.TabG H1 P → GxR.Tabbed P H1 H2 → Made X pins σ scope tg J H2 s5 (fun i cenv => .compStart (.GeneratorExp elt (⟨tg, iter, [], 0⟩ :: rest) scope gpos) 0 i .none cenv) it fp tn s4 code h' go m tk → Q' (.ref h'.objs.size) s5) :
    wpAny (model X.prog X.w) X.A (eval (.GeneratorExp elt (⟨tg, iter, [], 0⟩ :: rest) scope gpos) X.env) Q' X.xe s := by
  have hfree : ∀ y ∈ scope.names, y.2 = .free → ∃ c, X.env.cells.lookup y.1 = some c := fun y hy e => by
    rcases G.blk.free y hy e with k | k
    · exact I.ok.has _ (.inl k)
    · exact I.ok.has _ (.inr k)
  refine gen_make G.co (closure_ok hfree) G.cell G.dot G.blk.kind (by have := hr.dp; omega) ?_ hs
  refine thn (hi.run pins s σ H _ I h) fun xv s1 hx => thn hx fun itv s2 h2 => ?_
  obtain ⟨it, fp, tn, J, H1, e, I2, T, st2, f2, tab1, q⟩ := h2
  subst e
  refine ⟨I2.nolimit, ?_⟩
  have tabG := tab1
  obtain ⟨ps, hP, ht⟩ := tab1
  have hPs : s2.heap.get? P = some { cls := .none, data := .fields ps } := I2.hok P _ hP
  have hPlt : P < s2.heap.objs.size := Heap.lt_size hPs
  have cd : PySem.W.CodeHd s2.heap c P := TB.code.keeps I2.bk
  have sz : ∀ b ∈ fp, b < s2.heap.objs.size := fun b hb => by
    obtain ⟨o, e, _⟩ := T.obj _ _ st2 b hb
    exact Heap.lt_size e
  have fpP : ∀ b ∈ fp, b ≠ P := fun b hb z => by
    have := (f2 b hb).1
    rw [z, hP] at this
    cases this
  have cont : ∀ (code : Value) (h3 : Heap) (tk : Nat) (more : Array Value), (∀ b o, b ≠ P → s2.heap.get? b = some o → h3.get? b = some o) → s2.heap.objs.size ≤ h3.objs.size → h3.get? P = some { cls := .none, data := .fields (ps ++ more) } → TriplesOk (ps ++ more).toList →
      wpAny (model X.prog X.w) X.A (builtinsFor X.env.globals X.env.builtins) (fun bi s₄ =>
        ∀ h', h'.Ns s₄.heap.objs.size (fun y => if y = ".0" then some (.ref it) else none) → Heap.SameBut s₄.heap.objs.size (s₄.heap.push { cls := .type "frame", data := .dict #[] }) h' →
          Q' (.ref h'.objs.size) { s₄ with
            gens := s₄.gens.push (.fresh (.compStart (.GeneratorExp elt (⟨tg, iter, [], 0⟩ :: rest) scope gpos) 0 (.ref it) .none (genEnv scope (cloFrom X.env.cells scope.names []) s₄.heap.objs.size code bi X.env))),
            toks := s₄.toks + 1 + 1 + 1,
            heap := h'.push { cls := .type "generator", data := .fields #[.int s₄.gens.size 0, .str "<genexpr>" (s₄.toks + 1), .str (X.env.qual ++ "<genexpr>") (s₄.toks + 1 + 1)] } }) X.xe { s2 with heap := h3, toks := tk } := by
    intro code h3 tk more hk hsz hP3 ht3
    obtain ⟨bm, ob, e1, e2, e3, e4, e5, e6, e7, e8⟩ := TB.bm
    have J3 := GxR.inv_tab (more := more) (h' := h3) (g' := s2.gens) (d' := s2.drawn) (t' := tk) I2 hP hk hP3 I2.bare
    have glob3 := J3.mod.glob.keeps J3.bk
    refine wpAny_builtinsFor (m := X.mg) (by rw [I2.ok.glob]; exact glob3) e1 e2 (J3.bk _ _ e5) e6 e7 e8 ?_
    intro h' hn hsm
    refine hQ J H1 (upd H1 P (.tbl (ps ++ more))) it fp tn { s2 with heap := h3, toks := tk } code h' _ _ _ _ q tabG ⟨⟨ps ++ more, upd_same, ht3⟩, fun b hb => upd_ne hb⟩ ⟨T, ?_, J3, fun b hb => ⟨⟨?_, (f2 b hb).2⟩, Nat.lt_of_lt_of_le (sz b hb) hsz⟩, hn, hsm, fun h e => ⟨_, _, _, e, rfl, rfl, rfl⟩, fun v z => (by cases z), Heap.get?_push_size _ rfl, rfl⟩
    · exact T.keep _ _ _ st2 fun b hb o e => hk b o (fpP b hb) e
    · rw [upd_ne (fpP b hb)]
      exact (f2 b hb).1
  cases hf : codeAmong gpos ps.toList with
  | none =>
    refine wpAny_genexprCodeX hcode (cd.code hPs ht) (cd.tab hPs) hf fun c' h' tk hx hge hlt hco' _ htab' _ => ?_
    obtain ⟨o1, vs, f1, tf, fl, tg, inF, tx, tt, op, _, _, _, _, _, _, _, _, _, htr, _⟩ := hco'
    exact cont _ h' tk _ (fun b o hb e => hx b o hb e) (Nat.le_trans hge (Nat.le_of_lt hlt)) htab'.2 htr
  | some cv =>
    refine wpAny_genexprCode_hit hcode (cd.code hPs ht) hf ?_
    exact cont cv s2.heap s2.toks #[] (fun _ _ _ e => e) (Nat.le_refl _) (by simpa using hPs) (by simpa using ht)
end

/-! ### one clause -/
def JGK (X : Cx) (scope : Scope) (k : Nat) (e : Expr) (σ : L2.St) (H : Hp) (K : Kn) : Prop := ∀ (s0 : Shared) (H0 : Hp) (cl : List (Str × Addr)) (C : Addr) (code : Value) (bi : Addr) (fp : List Addr) (A' : Around) (pn : List (Addr × Obj)), Room k A' → JK M0 (gany X scope s0 H0 cl C code bi fp A' pn) e σ H K
theorem TgOk.up {β : Type} {H H' : Hp} {σ : L2.St} {g : TG} {vs : List Nat} {bs : List β} {enc : β → PyData} {Gd : β → L2.St → Hp → Prop} (h : TgOk M0 H σ g vs bs enc Gd) (x : Xt M0 H H') : TgOk M0 H' σ g vs bs enc Gd := fun H1 b v Q y hb r q => h H1 b v Q (x.trans y) hb r q
section
variable {X : Cx} {pins : List (Addr × Obj)} {σ : L2.St} {H : Hp} {s : Shared} {β : Type} {tg it elt : Expr} {scope : Scope} {own : List (Str × Nat)} {gpos pos p : Pos} {g : TG} {bs : List β} {enc : β → PyData} {t : β → Bool} {Gd : β → L2.St → Hp → Prop} {c P : Addr} {k : Nat}
theorem over_room {A : Around} {cc : Code} {k : Nat} (hr : Room (k + 1) A) (hw : cc.weight = 1) (hu : cc.cUnits = 3) : Room k (A.in1.in1.over cc []) := by
  refine ⟨hr.hd, ?_, ?_⟩
  · have := hr.dp
    show A.depth + 0 + cc.weight + 3 * k + 5 < recursionLimit
    omega
  · have := hr.un
    show A.units + 1 + 1 + 0 + cc.cUnits + 16 * k + 200 < cLine
    omega
theorem over_frames {A : Around} {cc : Code} {l : List Env} {env : Env} (h : A.frames = some l) (hc : cc.envs = [env]) : (A.over cc []).frames = some (env :: l) := by
  have e : (A.over cc []).frames = pushEnvs cc.envs (pushEnvs (envsOf (([] : List Frame).map Frame.where_)) A.frames) := rfl
  rw [e, h, hc]
  rfl
/-- behind the consumer -/
theorem Made.after {J : It} {H2 : Hp} {s5 s' : Shared} {mk : Value → Env → Code} {ita : Addr} {fp : List Addr} {tn : Nat → Heap → Prop} {s4 : Shared} {code : Value} {h' : Heap} {go : Obj} {m : Str → Option Value} {tk : Nat} {Q : VK} {u : Value} {v : V}
    (M : Made X pins σ scope tg J H2 s5 mk ita fp tn s4 code h' go m tk) (sl : SlG X.prog X.w (frs X.stack) fp H2 s4 h'.objs.size go s') (r : RelV v u) (q : ∀ H', Xt M0 H2 H' → Q v H') : EP X pins σ Q u s' := by
  obtain ⟨H', q1, q2, q3, q4, q5, q6, q7⟩ := sl
  exact ⟨v, H', M.inv.call' (ch := fp) q1 q3 q4 q2 fun b hb => ⟨(M.fpOk b hb).1.2.2.2.1, (M.fpOk b hb).1.2.1, (M.fpOk b hb).1.2.2.2.2.1, (M.fpOk b hb).1.2.2.2.2.2⟩, r, q H' q5⟩
/-- what a consumer gets -/
theorem gen_core {rest : List Comprehension} {ts : List Bool} {Q : Value → Shared → Prop} (hr : Room (k + 1) X.A) (TB : GxR.TabB X.base X.mg c P) (hcode : X.env.code = .ref c) (G : GOk X scope own) (nd : X.N.Nodup) (tab : GxR.TabG H P) (hs : ∀ v, genFold it X.env v = pure v)
    (h : JIx M0 X tg it σ H (bs.map enc)) (I : Inv X pins σ H s)
    (seg : ∀ (J : It) (Kp : Hp → Prop) (H2 : Hp) (fp : List Addr) (ita a : Addr) (tn : Nat → Heap → Prop) (s4 : Shared) (code : Value) (go : Obj) (s₀ s' : Shared), Turn X.prog X.w X.K tg J fp ita tn → ItOk M0 J Kp (bs.map enc) → Kp H2 → Xt M0 H H2 → (∀ b ∈ fp, a ≠ b) → (∀ b ∈ fp, H2 b = none) → tn 0 s'.heap →
      Inv (gany X scope s4 H2 (cloFrom X.env.cells scope.names []) s4.heap.objs.size code builtinsNs fp (X.A.in1.in1.over (.compLoop (.GeneratorExp elt (⟨tg, it, [], 0⟩ :: rest) scope gpos) 0 (.ref ita) .none (genEnv scope (cloFrom X.env.cells scope.names []) s4.heap.objs.size code builtinsNs X.env)) []) [(a, go)]) [] (wipe σ (own.map (·.2))) H2 s' →
      Room k (X.A.in1.in1.over (.compLoop (.GeneratorExp elt (⟨tg, it, [], 0⟩ :: rest) scope gpos) 0 (.ref ita) .none (genEnv scope (cloFrom X.env.cells scope.names []) s4.heap.objs.size code builtinsNs X.env)) []) →
      Seg (model X.prog X.w) X.A.in1.in1 (RB (SlG X.prog X.w (frs X.stack) fp H2 s4 a go)) (YB ts (SlG X.prog X.w (frs X.stack) fp H2 s4 a go)) ts.length s₀
        (.compStart (.GeneratorExp elt (⟨tg, it, [], 0⟩ :: rest) scope gpos) 0 (.ref ita) .none (genEnv scope (cloFrom X.env.cells scope.names []) s4.heap.objs.size code builtinsNs X.env))
        ((model X.prog X.w).den (.compStart (.GeneratorExp elt (⟨tg, it, [], 0⟩ :: rest) scope gpos) 0 (.ref ita) .none (genEnv scope (cloFrom X.env.cells scope.names []) s4.heap.objs.size code builtinsNs X.env))) [] s')
    (hQ : ∀ (a : Addr) (gn : Nat) (go : Nat) (St : Nat → Shared → Prop) (s5 : Shared) (Fi : Shared → Prop), s5.heap.IsGen a gn → St 0 s5 → (∀ i s b, ts[i]? = some b → St i s → wpAny (model X.prog X.w) X.A.in1 (pyNext (.ref a)) (fun r s' => r = some (.bool b) ∧ St (i + 1) s') (fun _ _ => False) s) →
      (∀ s, St ts.length s → wpAny (model X.prog X.w) X.A.in1 (pyNext (.ref a)) (fun r s' => r = none ∧ Fi s') (fun _ _ => False) s) → (∀ i s, St i s → Fi s) →
      (∀ s', Fi s' → ∃ H', Inv X pins σ H' s' ∧ Xt M0 H H') → go = (0 : Nat) → Q (.ref a) s5) :
    wpAny (model X.prog X.w) X.A (eval (.GeneratorExp elt (⟨tg, it, [], 0⟩ :: rest) scope gpos) X.env) Q X.xe s := by
  refine gen_eval (RR := fun J H1 => ∃ Kp, Xt M0 H H1 ∧ ItOk M0 J Kp (bs.map enc) ∧ Kp H1) hr TB hcode G pi_wi hs I (h H (Xt.refl H) _ fun J Kp H1 y ok k0 => ⟨y.tab P tab, Kp, y, ok, k0⟩) fun J H1 H2 ita fp tn s4 code h' go m tk s5 rr tabG tbd M => ?_
  obtain ⟨Kp, y, ok, k0⟩ := rr
  have y2 : Xt M0 H1 H2 := Xt.tabbed tabG tbd
  have k2 := ok.up _ _ y2 k0
  have szfp : ∀ b ∈ fp, b < s4.heap.objs.size := fun b hb => (M.fpOk b hb).2
  have hsz : h'.objs.size = s4.heap.objs.size + 1 := by rw [M.same.1, Heap.size_push]
  have ha : ∀ b ∈ fp, h'.objs.size ≠ b := fun b hb z => by
    have hlt := szfp b hb
    rw [← z, hsz] at hlt
    exact absurd hlt (Nat.not_lt.mpr (Nat.le_succ _))
  have hlim := M.inv.nolimit
  have hgens : AllBare (s4.gens.push (.fresh (.compStart (.GeneratorExp elt (⟨tg, it, [], 0⟩ :: rest) scope gpos) 0 (.ref ita) .none (genEnv scope (cloFrom X.env.cells scope.names []) s4.heap.objs.size code builtinsNs X.env)))) := AllBare.push M.inv.bare rfl
  have hfr : (X.A.in1.in1.over (.compLoop (.GeneratorExp elt (⟨tg, it, [], 0⟩ :: rest) scope gpos) 0 (.ref ita) .none (genEnv scope (cloFrom X.env.cells scope.names []) s4.heap.objs.size code builtinsNs X.env)) []).frames = some (genEnv scope (cloFrom X.env.cells scope.names []) s4.heap.objs.size code builtinsNs X.env :: X.stack) := by
    exact over_frames (A := X.A.in1.in1) M.inv.ok.frames rfl
  have hrm := over_room (cc := .compLoop (.GeneratorExp elt (⟨tg, it, [], 0⟩ :: rest) scope gpos) 0 (.ref ita) .none (genEnv scope (cloFrom X.env.cells scope.names []) s4.heap.objs.size code builtinsNs X.env)) hr rfl rfl
  have I5 := gen_start (tk := tk) (gs := _) M.inv G.blk nd G.cell M.fpOk hrm.hd hfr M.ns M.same M.gc M.gp hgens
  rw [← M.is] at I5
  have hkp : ∀ b o, s4.heap.get? b = some o → s5.heap.get? b = some o := fun b o e => by
    rw [M.is]
    exact Heap.get?_push_of_some _ (M.same.extBut b o (Nat.ne_of_lt (Heap.lt_size e)) (Heap.get?_push_of_some _ e))
  have st5 : tn 0 s5.heap := M.turn.keep _ _ _ M.tn0 fun b _ o e => hkp b o e
  have hg5 : s5.heap.IsGen h'.objs.size s4.gens.size := M.gen _ (by rw [M.is]; exact M.gp)
  refine hQ h'.objs.size s4.gens.size 0 (StG X.prog X.w X.A.in1 ts (frs X.stack) fp H2 s4 h'.objs.size go s4.gens.size) s5 (SlG X.prog X.w (frs X.stack) fp H2 s4 h'.objs.size go) hg5 ⟨.fresh (.compStart (.GeneratorExp elt (⟨tg, it, [], 0⟩ :: rest) scope gpos) 0 (.ref ita) .none (genEnv scope (cloFrom X.env.cells scope.names []) s4.heap.objs.size code builtinsNs X.env)), by rw [M.is]; exact Array.getElem?_push_size .., slG_of I5 (Xt.refl H2), fun s' z => ⟨rfl, ?_⟩⟩
    (stG_item hr.hd (by have := hr.dp; show X.A.depth < _; omega) M.gen) (stG_done hr.hd (by have := hr.dp; show X.A.depth < _; omega) M.gen) (fun i s h => by obtain ⟨_, _, z, _⟩ := h; exact z) (fun s' sl => ?_) rfl
  · rw [Nat.sub_zero]
    exact seg J Kp H2 fp ita h'.objs.size tn s4 code go s' s' M.turn ok k2 (y.trans y2) ha (fun b hb => (M.fpOk b hb).1.1) (by rw [z.heap]; exact st5) (Inv.same I5 z) hrm
  · obtain ⟨v, H', I', _, q⟩ := M.after (Q := fun _ H' => Xt M0 H2 H') (u := .none) (v := .non) sl rfl fun H' z => z
    exact ⟨H', I', (y.trans y2).trans q⟩
end

theorem call_anyG {X : Cx} {pins : List (Addr × Obj)} {σ : L2.St} {H : Hp} {ts : List Bool} {Q : VK} {a : Addr} {gn : Nat} {St : Nat → Shared → Prop} {s5 : Shared} {Fi : Shared → Prop} (hg : s5.heap.IsGen a gn) (h0 : St 0 s5)
    (item : ∀ i s b, ts[i]? = some b → St i s → wpAny (model X.prog X.w) X.A.in1 (pyNext (.ref a)) (fun r s' => r = some (.bool b) ∧ St (i + 1) s') (fun _ _ => False) s)
    (done : ∀ s, St ts.length s → wpAny (model X.prog X.w) X.A.in1 (pyNext (.ref a)) (fun r s' => r = none ∧ Fi s') (fun _ _ => False) s) (fin : ∀ i s, St i s → Fi s)
    (after : ∀ s', Fi s' → ∃ H', Inv X pins σ H' s' ∧ Xt M0 H H') (q : ∀ H', Xt M0 H H' → Q (.bl (ts.any id)) H') : wpAny (model X.prog X.w) X.A (call (.builtin "any") [.ref a]) (EP X pins σ Q) X.xe s5 := by
  refine call_function_tree F.kind_any F.plain_any F.entry_any (F.args_any1 _) ?_
  unfold Builtin.«any»
  refine wpAny_bind (m := oneArg "any" _) (wpAny_pure ?_)
  refine wpAny_bind (wpAny_pyIter_gen hg ?_)
  refine wpAny_pure ⟨plainId_quiet F.plain_any_loop _, codeAny_mono (loop_any ts St Fi item done fin ts.length 0 s5 rfl (Nat.zero_le _) h0) fun r s' h => ?_⟩
  obtain ⟨rfl, hf⟩ := h
  obtain ⟨H', I', x⟩ := after s' hf
  exact ⟨.bl (ts.any id), H', I', rfl, q H' x⟩
theorem j_any1 {X : Cx} {σ : L2.St} {H : Hp} {β : Type} {tg it elt : Expr} {scope : Scope} {own : List (Str × Nat)} {gpos pos p : Pos} {g : TG} {bs : List β} {enc : β → PyData} {t : β → Bool} {Gd : β → L2.St → Hp → Prop} {c P : Addr} {k : Nat}
    (hr : Room (k + 1) X.A) (hgl : Gl X "any") (hm : X.mg "any" = none) (TB : GxR.TabB X.base X.mg c P) (hcode : X.env.code = .ref c) (G : GOk X scope own) (nd : X.N.Nodup) (tab : GxR.TabG H P)
    (h : JIx M0 X tg it σ H (bs.map enc)) (hgt : TgOk M0 H σ g (own.map (·.2)) bs enc Gd)
    (hgp : ∀ (s0 : Shared) (H0 : Hp) (cl : List (Str × Addr)) (C : Addr) (code : Value) (bi : Addr) (fp : List Addr) (A' : Around) (pn : List (Addr × Obj)), PG (gany X scope s0 H0 cl C code bi fp A' pn) tg g)
    (he : ∀ H1 b σ2, Xt M0 H H1 → b ∈ bs → Gd b σ2 H1 → JGK X scope k elt σ2 H1 (kB (t b))) (hs : ∀ v, genFold it X.env v = pure v := by intro _; rfl) (hb : bootBuiltins "any" = some (.builtin "any") := by rfl)
    (hst : starEach [.GeneratorExp elt [⟨tg, it, [], 0⟩] scope gpos] X.env = (false, eval (.GeneratorExp elt [⟨tg, it, [], 0⟩] scope gpos) X.env) :: starEach [] X.env := by rfl) :
    JK M0 X (.Call (.Name "any" p) [.GeneratorExp elt [⟨tg, it, [], 0⟩] scope gpos] [] pos) σ H (kB (bs.any t)) := by
  intro H0 x Q q pins s I
  refine wpAny_Call_Name_kw (ld_blt I hgl hm hb ?_)
  refine PyProof.Rows.callWith_builtin1 ?_ hst (by rfl)
  rw [hst]
  show wpAny _ _ (spliced ((false, eval (.GeneratorExp elt [⟨tg, it, [], 0⟩] scope gpos) X.env) :: backTo pos (starEach [] X.env))) _ _ s
  refine Calls.spliced_cons (gen_core (ts := bs.map t) hr TB hcode G nd (x.tab P tab) hs (fun H3 y => h H3 (x.trans y)) I ?_ ?_)
  · intro J Kp H2 fp ita a tn s4 code go s₀ s' T ok k0 y ha nf st I5 hrm
    refine seg_g1s T st ?_
    exact seg_g1 T ok k0 ha G.co (hgp _ _ _ _ _ _ _ _ _) ((hgt.up x).up y) (fun H' b σ2 z hb gd => he H' b σ2 ((x.trans y).trans z) hb gd _ _ _ _ _ _ _ _ _ hrm) bs.length 0 s₀ s' H2 (Nat.sub_zero _) (Nat.zero_le _) I5 st nf (Xt.refl H2)
  · intro a gn go St s5 Fi hg h0 item done fin after _
    refine Calls.spliced_nil ?_
    refine call_anyG hg h0 item done fin after fun H' z => ?_
    have e : (bs.map t).any id = bs.any t := by rw [List.any_map]; rfl
    rw [e]
    exact q _ H' z kB_of

theorem call_allG {X : Cx} {pins : List (Addr × Obj)} {σ : L2.St} {H : Hp} {ts : List Bool} {Q : VK} {a : Addr} {gn : Nat} {St : Nat → Shared → Prop} {s5 : Shared} {Fi : Shared → Prop} (hg : s5.heap.IsGen a gn) (h0 : St 0 s5)
    (item : ∀ i s b, ts[i]? = some b → St i s → wpAny (model X.prog X.w) X.A.in1 (pyNext (.ref a)) (fun r s' => r = some (.bool b) ∧ St (i + 1) s') (fun _ _ => False) s)
    (done : ∀ s, St ts.length s → wpAny (model X.prog X.w) X.A.in1 (pyNext (.ref a)) (fun r s' => r = none ∧ Fi s') (fun _ _ => False) s) (fin : ∀ i s, St i s → Fi s)
    (after : ∀ s', Fi s' → ∃ H', Inv X pins σ H' s' ∧ Xt M0 H H') (q : ∀ H', Xt M0 H H' → Q (.bl (ts.all id)) H') : wpAny (model X.prog X.w) X.A (call (.builtin "all") [.ref a]) (EP X pins σ Q) X.xe s5 := by
  refine call_function_tree F.kind_all F.plain_all F.entry_all (F.args_all1 _) ?_
  unfold Builtin.«all»
  refine wpAny_bind (m := oneArg "all" _) (wpAny_pure ?_)
  refine wpAny_bind (wpAny_pyIter_gen hg ?_)
  refine wpAny_pure ⟨plainId_quiet F.plain_all_loop _, codeAny_mono (loop_all ts St Fi item done fin ts.length 0 s5 rfl (Nat.zero_le _) h0) fun r s' h => ?_⟩
  obtain ⟨rfl, hf⟩ := h
  obtain ⟨H', I', x⟩ := after s' hf
  exact ⟨.bl (ts.all id), H', I', rfl, q H' x⟩
theorem j_all1 {X : Cx} {σ : L2.St} {H : Hp} {β : Type} {tg it elt : Expr} {scope : Scope} {own : List (Str × Nat)} {gpos pos p : Pos} {g : TG} {bs : List β} {enc : β → PyData} {t : β → Bool} {Gd : β → L2.St → Hp → Prop} {c P : Addr} {k : Nat}
    (hr : Room (k + 1) X.A) (hgl : Gl X "all") (hm : X.mg "all" = none) (TB : GxR.TabB X.base X.mg c P) (hcode : X.env.code = .ref c) (G : GOk X scope own) (nd : X.N.Nodup) (tab : GxR.TabG H P)
    (h : JIx M0 X tg it σ H (bs.map enc)) (hgt : TgOk M0 H σ g (own.map (·.2)) bs enc Gd)
    (hgp : ∀ (s0 : Shared) (H0 : Hp) (cl : List (Str × Addr)) (C : Addr) (code : Value) (bi : Addr) (fp : List Addr) (A' : Around) (pn : List (Addr × Obj)), PG (gany X scope s0 H0 cl C code bi fp A' pn) tg g)
    (he : ∀ H1 b σ2, Xt M0 H H1 → b ∈ bs → Gd b σ2 H1 → JGK X scope k elt σ2 H1 (kB (t b))) (hs : ∀ v, genFold it X.env v = pure v := by intro _; rfl) (hb : bootBuiltins "all" = some (.builtin "all") := by rfl)
    (hst : starEach [.GeneratorExp elt [⟨tg, it, [], 0⟩] scope gpos] X.env = (false, eval (.GeneratorExp elt [⟨tg, it, [], 0⟩] scope gpos) X.env) :: starEach [] X.env := by rfl) :
    JK M0 X (.Call (.Name "all" p) [.GeneratorExp elt [⟨tg, it, [], 0⟩] scope gpos] [] pos) σ H (kB (bs.all t)) := by
  intro H0 x Q q pins s I
  refine wpAny_Call_Name_kw (ld_blt I hgl hm hb ?_)
  refine PyProof.Rows.callWith_builtin1 ?_ hst (by rfl)
  rw [hst]
  show wpAny _ _ (spliced ((false, eval (.GeneratorExp elt [⟨tg, it, [], 0⟩] scope gpos) X.env) :: backTo pos (starEach [] X.env))) _ _ s
  refine Calls.spliced_cons (gen_core (ts := bs.map t) hr TB hcode G nd (x.tab P tab) hs (fun H3 y => h H3 (x.trans y)) I ?_ ?_)
  · intro J Kp H2 fp ita a tn s4 code go s₀ s' T ok k0 y ha nf st I5 hrm
    refine seg_g1s T st ?_
    exact seg_g1 T ok k0 ha G.co (hgp _ _ _ _ _ _ _ _ _) ((hgt.up x).up y) (fun H' b σ2 z hb gd => he H' b σ2 ((x.trans y).trans z) hb gd _ _ _ _ _ _ _ _ _ hrm) bs.length 0 s₀ s' H2 (Nat.sub_zero _) (Nat.zero_le _) I5 st nf (Xt.refl H2)
  · intro a gn go St s5 Fi hg h0 item done fin after _
    refine Calls.spliced_nil ?_
    refine call_allG hg h0 item done fin after fun H' z => ?_
    have e : (bs.map t).all id = bs.all t := by rw [List.all_map]; rfl
    rw [e]
    exact q _ H' z kB_of
end K68

set_option Elab.async false
set_option linter.all false
set_option maxRecDepth 100000
set_option maxHeartbeats 4000000
/-! K68, text A9: all of a generator expression of two clauses. -/
namespace K68
open PySem PySem.Spec L2 GenW
open PyProof.Rows hiding St
theorem turn_g2_out (elt t0 i0 t1 i1 : Expr) (scope : Scope) (pos : Pos) (it acc : Value) (env : Env) :
    compTurn (.GeneratorExp elt [⟨t0, i0, [], 0⟩, ⟨t1, i1, [], 0⟩] scope pos) 0 it acc env = (do
      standAt i0.pos
      match ← pyNext it with
      | none => pure (.done .next)
      | some v =>
        letOwnedTupleGo t0 it v
        assign t0 env v
        let x ← eval i1 env
        standAt i1.pos
        let x ← foldedSetIterable i1 env x
        let it1 ← holding [x] (pyIter x)
        let _ ← runOwn (.compStart (.GeneratorExp elt [⟨t0, i0, [], 0⟩, ⟨t1, i1, [], 0⟩] scope pos) 1 it1 acc env) env
        again (.compLoop (.GeneratorExp elt [⟨t0, i0, [], 0⟩, ⟨t1, i1, [], 0⟩] scope pos) 0 it acc env)) := by rfl
theorem turn_g2_in (elt t0 i0 t1 i1 : Expr) (scope : Scope) (pos : Pos) (it acc : Value) (env : Env) :
    compTurn (.GeneratorExp elt [⟨t0, i0, [], 0⟩, ⟨t1, i1, [], 0⟩] scope pos) 1 it acc env = (do
      standAt i1.pos
      match ← pyNext it with
      | none => pure (.done .next)
      | some v =>
        letOwnedTupleGo t1 it v
        assign t1 env v
        (do let v ← eval elt env; standAt elt.pos; let _ ← yieldOut env v)
        again (.compLoop (.GeneratorExp elt [⟨t0, i0, [], 0⟩, ⟨t1, i1, [], 0⟩] scope pos) 1 it acc env)) := by rfl
theorem seg_runOwn {M : Model} {A : Around} {R : GenEnd} {Y : Protocol} {n : Nat} {s₀ : Shared} {c c' : Code} {fs : List Frame} {s : Shared} {env : Env} {β : Type} {K : Flow → Sem β} {K' : β → Sem PySem.Fin} {H' : Value → Sem PySem.Fin} {gd : Bool → Bool} {lv : List Value → List Value}
    (h : ∀ p, Seg M A R Y n s₀ c' (M.den c') (.ret (fun r => (((match r with | .ok f => (.pure f : Sem Flow) | .error e => .raise e).onRaise (cameBack env)) >>= K).wrap K' H' gd lv) none (gd false) (lv []) c p [] :: fs) s) :
    Seg M A R Y n s₀ c ((runOwn c' env >>= K).wrap K' H' gd lv) fs s := seg_call h

section
variable {X : Cx} {σ : L2.St} {H1 : Hp} {s4 : Shared} {β : Type} {t0 i0 t1 i1 elt : Expr} {scope : Scope} {pos : Pos} {g : TG} {vs : List Nat} {j1 : Nat} {J J1 : It} {Kp Kp1 : Hp → Prop} {fp fp1 : List Addr} {it it1 a : Addr} {go : Obj} {tn tn1 : Nat → Heap → Prop} {cenv : Env} {Ag : Around} {bs : List β} {enc : β → PyData} {t : Int → Bool} {Gd : β → L2.St → Hp → Prop} {ts : List Bool}
theorem seg_g2i (cs : List Int) (T1 : Turn X.prog X.w X.K t1 J1 fp1 it1 tn1) (ok1 : ItOk M0 J1 Kp1 (cs.map .int)) {H11 : Hp} (k1 : Kp1 H11) (x1 : Xt M0 H1 H11) (hco : cenv.scope.isCoroutine = false) {P0 : List (Addr × Obj)} {σ8 : L2.St} {base : Nat} {fk : Result → Sem PySem.Fin} {p : Pos}
    (hts : ∀ j c, cs[j]? = some c → ts[base + j]? = some (t c)) (hlen : base + cs.length ≤ ts.length)
    (stat1 : ∀ H', (∀ b ∈ fp1, H' b = none) → ∀ b ∈ fp1, FpOk (gcx X s4 H1 cenv fp (Ag.over (.compLoop (.GeneratorExp elt [⟨t0, i0, [], 0⟩, ⟨t1, i1, [], 0⟩] scope pos) 0 (.ref it) .none cenv) []) [(a, go)]) P0 H' b)
    (hg1 : PG (gcx X s4 H1 cenv fp (Ag.over (.compLoop (.GeneratorExp elt [⟨t0, i0, [], 0⟩, ⟨t1, i1, [], 0⟩] scope pos) 0 (.ref it) .none cenv) []) [(a, go)]) t1 (gName j1)) (hw1 : ∀ (v : V), wipe ((wipe σ8 [j1]).set j1 (some v)) [j1] = wipe σ8 [j1])
    (he : ∀ H' c, Xt M0 H11 H' → c ∈ cs → JK M0 (gcx X s4 H1 cenv fp (Ag.over (.compLoop (.GeneratorExp elt [⟨t0, i0, [], 0⟩, ⟨t1, i1, [], 0⟩] scope pos) 0 (.ref it) .none cenv) []) [(a, go)]) elt ((wipe σ8 [j1]).set j1 (some (.int c))) H' (kB (t c)))
    (hend : ∀ n s₀ s H', n + base + cs.length = ts.length → Inv (gcx X s4 H1 cenv fp (Ag.over (.compLoop (.GeneratorExp elt [⟨t0, i0, [], 0⟩, ⟨t1, i1, [], 0⟩] scope pos) 0 (.ref it) .none cenv) []) [(a, go)]) P0 (wipe σ8 [j1]) H' s → Xt M0 H11 H' → Seg (model X.prog X.w) Ag (RB (SlG X.prog X.w (frs X.stack) fp H1 s4 a go)) (YB ts (SlG X.prog X.w (frs X.stack) fp H1 s4 a go)) n s₀ (.compLoop (.GeneratorExp elt [⟨t0, i0, [], 0⟩, ⟨t1, i1, [], 0⟩] scope pos) 0 (.ref it) .none cenv) (fk (.ok .next)) [] s) :
    ∀ (k j n : Nat) (s₀ s : Shared) (H' : Hp), cs.length - j = k → j ≤ cs.length → n + base + j = ts.length → Inv (gcx X s4 H1 cenv fp (Ag.over (.compLoop (.GeneratorExp elt [⟨t0, i0, [], 0⟩, ⟨t1, i1, [], 0⟩] scope pos) 0 (.ref it) .none cenv) []) [(a, go)]) P0 (wipe σ8 [j1]) H' s → tn1 j s.heap → (∀ b ∈ fp1, H' b = none) → Xt M0 H11 H' →
      Seg (model X.prog X.w) Ag (RB (SlG X.prog X.w (frs X.stack) fp H1 s4 a go)) (YB ts (SlG X.prog X.w (frs X.stack) fp H1 s4 a go)) n s₀ (.compLoop (.GeneratorExp elt [⟨t0, i0, [], 0⟩, ⟨t1, i1, [], 0⟩] scope pos) 1 (.ref it1) .none cenv) ((model X.prog X.w).den (.compLoop (.GeneratorExp elt [⟨t0, i0, [], 0⟩, ⟨t1, i1, [], 0⟩] scope pos) 1 (.ref it1) .none cenv)) [.ret fk none false [] (.compLoop (.GeneratorExp elt [⟨t0, i0, [], 0⟩, ⟨t1, i1, [], 0⟩] scope pos) 0 (.ref it) .none cenv) p []] s := by
  have hl1 : (cs.map PyData.int).length = cs.length := List.length_map _
  have hov : Ag.over (.compLoop (.GeneratorExp elt [⟨t0, i0, [], 0⟩, ⟨t1, i1, [], 0⟩] scope pos) 1 (.ref it1) .none cenv) [.ret fk none false [] (.compLoop (.GeneratorExp elt [⟨t0, i0, [], 0⟩, ⟨t1, i1, [], 0⟩] scope pos) 0 (.ref it) .none cenv) p []] = Ag.over (.compLoop (.GeneratorExp elt [⟨t0, i0, [], 0⟩, ⟨t1, i1, [], 0⟩] scope pos) 0 (.ref it) .none cenv) [] := over_loop rfl rfl
  intro k
  induction k with
  | zero =>
    intro j n s₀ s H' hk hj hn I st nf x
    have hin : j = cs.length := by omega
    subst hin
    have kp := ok1.up _ _ x k1
    show Seg _ Ag _ _ _ s₀ _ ((compTurn (.GeneratorExp elt [⟨t0, i0, [], 0⟩, ⟨t1, i1, [], 0⟩] scope pos) 1 (.ref it1) .none cenv).onRaise (fun x => do noteFrame x cenv; theTreesLotGoes x)) _ s
    rw [turn_g2_in, Sem.onRaise_eq_wrap]
    refine seg_bind_wrap (wpAny_standAt ?_)
    refine seg_bind_wrap ?_
    rw [hov]
    refine wpAny_mono (T1.done (gcx X s4 H1 cenv fp (Ag.over (.compLoop (.GeneratorExp elt [⟨t0, i0, [], 0⟩, ⟨t1, i1, [], 0⟩] scope pos) 0 (.ref it) .none cenv) []) [(a, go)]) rfl rfl rfl rfl cs.length _ s _ H' (fun _ _ => False) I (stat1 H' nf) st (by have := ok1.stops H' kp; rw [hl1] at this; exact this)) (fun r s1 h => ?_) fun _ _ e => e.elim
    obtain ⟨rfl, I1⟩ := h
    exact seg_leaf (.ok .next) (hend n s₀ s1 H' hn I1 x)
  | succ k ih =>
    intro j n s₀ s H' hk hj hn I st nf x
    have hlt : j < cs.length := by omega
    have kp := ok1.up _ _ x k1
    show Seg _ Ag _ _ _ s₀ _ ((compTurn (.GeneratorExp elt [⟨t0, i0, [], 0⟩, ⟨t1, i1, [], 0⟩] scope pos) 1 (.ref it1) .none cenv).onRaise (fun x => do noteFrame x cenv; theTreesLotGoes x)) _ s
    rw [turn_g2_in, Sem.onRaise_eq_wrap]
    refine seg_bind_wrap (wpAny_standAt ?_)
    refine seg_bind_wrap ?_
    rw [hov]
    refine wpAny_mono (T1.item (gcx X s4 H1 cenv fp (Ag.over (.compLoop (.GeneratorExp elt [⟨t0, i0, [], 0⟩, ⟨t1, i1, [], 0⟩] scope pos) 0 (.ref it) .none cenv) []) [(a, go)]) rfl rfl rfl rfl j _ s _ H' (fun _ _ => False) I (stat1 H' nf) st (ok1.goes j H' kp (by rw [hl1]; exact hlt))) (fun r s1 h => ?_) fun _ _ e => e.elim
    obtain ⟨u, rfl, h6⟩ := h
    refine seg_bind_wrap ?_
    rw [hov]
    refine wpAny_mono h6 (fun _ s7 h => ?_) fun _ _ e => e.elim
    obtain ⟨v, H7, I7, r7, y7, st7, n7⟩ := h
    obtain ⟨rfl, d, hd, r⟩ := ok1.yld j H' v H7 kp (by rw [hl1]; exact hlt) y7
    have hb : cs[j]? = some cs[j] := by simp [hlt]
    rw [List.getElem?_map, hb] at hd
    have hd : PyData.int cs[j] = d := Option.some.inj hd
    subst hd
    have ev : v = .int cs[j] := kI_eq r
    subst ev
    have hm : cs[j] ∈ cs := List.getElem_mem hlt
    have I7' := I7.pinned (stat1 _ n7) (T1.obj _ _ st7)
    refine seg_bind_wrap ?_
    rw [hov]
    refine wpAny_mono (hg1.run _ s7 _ H7 _ u (fun σ2 H2 => σ2 = (wipe σ8 [j1]).set j1 (some (.int cs[j])) ∧ H2 = H7) I7' r7 ⟨rfl, rfl⟩) (fun _ s8 h => ?_) fun _ _ e => e.elim
    obtain ⟨σ2, H2, I8, rfl, rfl⟩ := h
    have hy : ∀ v, yieldOut cenv v = yieldValue v := fun v => by simp only [yieldOut, hco, Bool.false_eq_true, if_false]
    simp only [hy]
    rw [Sem.bind_eq_wrap', Sem.bind_eq_wrap', Sem.wrap_wrap, Sem.wrap_wrap]
    have hjt : base + j < ts.length := by omega
    obtain ⟨m, rfl⟩ : ∃ m, n = m + 1 := ⟨n - 1, by omega⟩
    refine seg_wrap ?_
    rw [hov]
    refine wpAny_mono (he H2 cs[j] x hm H2 (Xt.refl H2) (fun y H9 => y = .bl (t cs[j]) ∧ Xt M0 H2 H9) (fun y H9 z ky => ⟨kB_eq ky, z⟩) _ s8 I8) (fun y s9 h => ?_) fun _ _ e => e.elim
    obtain ⟨yv, H9, I9, ry, rfl, z9⟩ := h
    have ry : y = .bool (t cs[j]) := ry
    subst ry
    have pin' : ∀ b ∈ fp1, ∀ o, s7.heap.get? b = some o → s9.heap.get? b = some o ∧ H9 b = none := fun b hb o e =>
      let z := I9.pin (b, o) (List.mem_append_right _ (List.mem_append_right _ (mem_pinsAt hb e)))
      ⟨z.1, z.2.1⟩
    have hcj := hw1 (.int cs[j])
    have I10 := I9.unpinned.weak (σ' := wipe σ8 [j1]) (by rw [List.length_set]) (fun i v e => by
      have e2 : (wipe ((wipe σ8 [j1]).set j1 (some (V.int cs[j]))) [j1])[i]? = some (some v) := by rw [hcj]; exact e
      exact (wipe_some e2).1)
    have st9 : tn1 (j + 1) s9.heap := T1.keep _ _ _ st7 fun b hb o e => (pin' b hb o e).1
    have n9 : ∀ b ∈ fp1, H9 b = none := fun b hb => by
      obtain ⟨o, e, _⟩ := T1.obj _ _ st7 b hb
      exact (pin' b hb o e).2
    refine seg_at (seg_yield rfl rfl rfl ⟨base + j, t cs[j], by omega, hts j _ hb, rfl, slG_of I10 ((x1.trans x).trans z9), fun s'' hs => ?_⟩)
    exact seg_again rfl (ih (j + 1) m s'' s'' H9 (by omega) hlt (by omega) (Inv.same I10 hs) (by rw [hs.heap]; exact st9) n9 (x.trans z9))
theorem seg_g2 (cs : β → List Int) (T : Turn X.prog X.w X.K t0 J fp it tn) (ok : ItOk M0 J Kp (bs.map enc)) (k0 : Kp H1) (ha : ∀ b ∈ fp, a ≠ b) (hco : cenv.scope.isCoroutine = false) (hv1 : j1 ∈ vs)
    (hg : PG (gcx X s4 H1 cenv fp (Ag.over (.compLoop (.GeneratorExp elt [⟨t0, i0, [], 0⟩, ⟨t1, i1, [], 0⟩] scope pos) 0 (.ref it) .none cenv) []) [(a, go)]) t0 g) (hgt : TgOk M0 H1 σ g vs bs enc Gd) (hgm : ∀ H2 H3 b σ2, Xt M0 H2 H3 → Gd b σ2 H2 → Gd b σ2 H3) (hg1 : PG (gcx X s4 H1 cenv fp (Ag.over (.compLoop (.GeneratorExp elt [⟨t0, i0, [], 0⟩, ⟨t1, i1, [], 0⟩] scope pos) 0 (.ref it) .none cenv) []) [(a, go)]) t1 (gName j1)) (hw1 : ∀ σ2 (v : V), wipe ((wipe σ2 [j1]).set j1 (some v)) [j1] = wipe σ2 [j1])
    (hi : ∀ H' b σ2, Xt M0 H1 H' → b ∈ bs → Gd b σ2 H' → JIx M0 (gcx X s4 H1 cenv fp (Ag.over (.compLoop (.GeneratorExp elt [⟨t0, i0, [], 0⟩, ⟨t1, i1, [], 0⟩] scope pos) 0 (.ref it) .none cenv) []) [(a, go)]) t1 i1 σ2 H' ((cs b).map .int))
    (he : ∀ H' b σ2 c, Xt M0 H1 H' → b ∈ bs → Gd b σ2 H' → c ∈ cs b → JK M0 (gcx X s4 H1 cenv fp (Ag.over (.compLoop (.GeneratorExp elt [⟨t0, i0, [], 0⟩, ⟨t1, i1, [], 0⟩] scope pos) 0 (.ref it) .none cenv) []) [(a, go)]) elt ((wipe σ2 [j1]).set j1 (some (.int c))) H' (kB (t c))) (hs1 : ∀ x, foldedSetIterable i1 cenv x = pure x) :
    ∀ (k i n : Nat) (s₀ s : Shared) (H' : Hp), bs.length - i = k → i ≤ bs.length → n + ((bs.take i).flatMap cs).length = ((bs.flatMap cs).map t).length → Inv (gcx X s4 H1 cenv fp (Ag.over (.compLoop (.GeneratorExp elt [⟨t0, i0, [], 0⟩, ⟨t1, i1, [], 0⟩] scope pos) 0 (.ref it) .none cenv) []) [(a, go)]) [] (wipe σ vs) H' s → tn i s.heap → (∀ b ∈ fp, H' b = none) → Xt M0 H1 H' →
      Seg (model X.prog X.w) Ag (RB (SlG X.prog X.w (frs X.stack) fp H1 s4 a go)) (YB ((bs.flatMap cs).map t) (SlG X.prog X.w (frs X.stack) fp H1 s4 a go)) n s₀ (.compLoop (.GeneratorExp elt [⟨t0, i0, [], 0⟩, ⟨t1, i1, [], 0⟩] scope pos) 0 (.ref it) .none cenv) ((model X.prog X.w).den (.compLoop (.GeneratorExp elt [⟨t0, i0, [], 0⟩, ⟨t1, i1, [], 0⟩] scope pos) 0 (.ref it) .none cenv)) [] s := by
  have hlen : (bs.map enc).length = bs.length := List.length_map _
  have stat : ∀ {σ' : L2.St} {H' : Hp} {s' : Shared}, Inv (gcx X s4 H1 cenv fp (Ag.over (.compLoop (.GeneratorExp elt [⟨t0, i0, [], 0⟩, ⟨t1, i1, [], 0⟩] scope pos) 0 (.ref it) .none cenv) []) [(a, go)]) [] σ' H' s' → (∀ b ∈ fp, H' b = none) → ∀ b ∈ fp, FpOk (gcx X s4 H1 cenv fp (Ag.over (.compLoop (.GeneratorExp elt [⟨t0, i0, [], 0⟩, ⟨t1, i1, [], 0⟩] scope pos) 0 (.ref it) .none cenv) []) [(a, go)]) [] H' b := fun {σ' H' s'} I' hn b hb =>
    ⟨hn b hb, (I'.ok.exf b hb).1, I'.ok.exfs b hb, .inl hb, fun x c e => (I'.ok.exf b hb).2 x c e, fun p hp => by
      have hp : p ∈ [(a, go)] ++ [] := hp
      rw [List.append_nil] at hp
      rw [List.mem_singleton.mp hp]
      exact ha b hb⟩
  intro k
  induction k with
  | zero =>
    intro i n s₀ s H' hk hi' hn I st nf x
    have hin : i = bs.length := by omega
    subst hin
    have kp := ok.up _ _ x k0
    rw [List.take_length, List.length_map] at hn
    show Seg _ Ag _ _ _ s₀ _ ((compTurn (.GeneratorExp elt [⟨t0, i0, [], 0⟩, ⟨t1, i1, [], 0⟩] scope pos) 0 (.ref it) .none cenv).onRaise (leaving cenv)) [] s
    rw [turn_g2_out, Sem.onRaise_eq_wrap]
    refine seg_bind_wrap (wpAny_standAt ?_)
    refine seg_bind_wrap (wpAny_mono (T.done (gcx X s4 H1 cenv fp (Ag.over (.compLoop (.GeneratorExp elt [⟨t0, i0, [], 0⟩, ⟨t1, i1, [], 0⟩] scope pos) 0 (.ref it) .none cenv) []) [(a, go)]) rfl rfl rfl rfl bs.length [] s _ H' (fun _ _ => False) I (stat I nf) st (by have := ok.stops H' kp; rw [hlen] at this; exact this)) (fun r s1 h => ?_) fun _ _ e => e.elim)
    obtain ⟨rfl, I1⟩ := h
    exact seg_end (.ok .next) ⟨rfl, by omega, slG_of I1 x⟩
  | succ k ih =>
    intro i n s₀ s H' hk hi' hn I st nf x
    have hlt : i < bs.length := by omega
    have kp := ok.up _ _ x k0
    show Seg _ Ag _ _ _ s₀ _ ((compTurn (.GeneratorExp elt [⟨t0, i0, [], 0⟩, ⟨t1, i1, [], 0⟩] scope pos) 0 (.ref it) .none cenv).onRaise (leaving cenv)) [] s
    rw [turn_g2_out, Sem.onRaise_eq_wrap]
    refine seg_bind_wrap (wpAny_standAt ?_)
    refine seg_bind_wrap (wpAny_mono (T.item (gcx X s4 H1 cenv fp (Ag.over (.compLoop (.GeneratorExp elt [⟨t0, i0, [], 0⟩, ⟨t1, i1, [], 0⟩] scope pos) 0 (.ref it) .none cenv) []) [(a, go)]) rfl rfl rfl rfl i [] s _ H' (fun _ _ => False) I (stat I nf) st (ok.goes i H' kp (by rw [hlen]; exact hlt))) (fun r s1 h => ?_) fun _ _ e => e.elim)
    obtain ⟨u, rfl, h6⟩ := h
    refine seg_bind_wrap (wpAny_mono h6 (fun _ s7 h => ?_) fun _ _ e => e.elim)
    obtain ⟨v, H7, I7, r7, y7, st7, n7⟩ := h
    obtain ⟨rfl, d, hd, r⟩ := ok.yld i H' v H7 kp (by rw [hlen]; exact hlt) y7
    have hb : bs[i]? = some bs[i] := by simp [hlt]
    rw [List.getElem?_map, hb] at hd
    have hd : enc bs[i] = d := Option.some.inj hd
    subst hd
    have hm : bs[i] ∈ bs := List.getElem_mem hlt
    have I7' := I7.pinned (stat I7 n7) (T.obj _ _ st7)
    refine seg_bind_wrap (wpAny_mono (hg.run _ s7 _ H7 v u _ I7' r7 (hgt H7 bs[i] v (fun σ2 H2 => wipe σ2 vs = wipe σ vs ∧ H2 = H7 ∧ Gd bs[i] σ2 H7) x hm r fun σ2 hw gd => ⟨hw, rfl, gd⟩)) (fun _ s8 h => ?_) fun _ _ e => e.elim)
    obtain ⟨σ8, H2, I8, hw, rfl, gd⟩ := h
    have e := flat_step (f := cs) hb
    refine seg_bind_wrap (wpAny_mono (hi H2 bs[i] σ8 x hm gd H2 (Xt.refl H2) (fun J1 H4 => ∃ Kp1, Xt M0 H2 H4 ∧ ItOk M0 J1 Kp1 ((cs bs[i]).map .int) ∧ Kp1 H4) (fun J1 Kp1 H4 y ok1 k1 => ⟨Kp1, y, ok1, k1⟩) _ s8 I8) (fun xv s9 hx => ?_) fun _ _ e => e.elim)
    refine seg_bind_wrap (wpAny_standAt ?_)
    refine seg_bind_wrap (wpAny_of_eq (hs1 xv) ?_)
    refine seg_bind_wrap (wpAny_holding (wpAny_mono hx (fun itv s10 hx => ?_) fun _ _ e => e.elim))
    obtain ⟨it1, fp1, tn1, J1, H11, e1, I11, T1, st11, f11, Kp1, y11, ok1, k1⟩ := hx
    subst e1
    refine seg_runOwn fun p => ?_
    have part : ∀ j c, (cs bs[i])[j]? = some c → ((bs.flatMap cs).map t)[((bs.take i).flatMap cs).length + j]? = some (t c) := fun j c hc => by
      have h0 : bs.flatMap cs = (bs.take i).flatMap cs ++ (cs bs[i] ++ (bs.drop (i + 1)).flatMap cs) := by
        have h1 : bs = bs.take (i + 1) ++ bs.drop (i + 1) := (List.take_append_drop _ _).symm
        have h2 : bs.flatMap cs = (bs.take (i + 1)).flatMap cs ++ (bs.drop (i + 1)).flatMap cs := by
          rw [← List.flatMap_append, ← h1]
        rw [h2, e, List.append_assoc]
      have hlt2 : j < (cs bs[i]).length := (List.getElem?_eq_some_iff.mp hc).1
      rw [List.getElem?_map, h0, List.getElem?_append_right (Nat.le_add_right _ _), Nat.add_sub_cancel_left, List.getElem?_append_left hlt2, hc]
      rfl
    have hle : ((bs.take i).flatMap cs).length + (cs bs[i]).length ≤ ((bs.flatMap cs).map t).length := by
      have h1 := flat_take bs cs (i + 1)
      rw [e, List.length_append] at h1
      rw [List.length_map]
      exact h1
    have inner := seg_g2i (X := X) (H1 := H1) (s4 := s4) (fp := fp) (a := a) (go := go) (Ag := Ag) (t := t) (ts := (bs.flatMap cs).map t) (scope := scope) (elt := elt) (pos := pos) (t0 := t0) (i0 := i0) (i1 := i1) (it := it) (cs := cs bs[i]) (σ8 := σ8) (P0 := [] ++ pinsAt fp s7.heap) (base := ((bs.take i).flatMap cs).length) (p := p) (fk := fun r => (((match r with | .ok f => (.pure f : Sem Flow) | .error e => .raise e).onRaise (cameBack cenv)) >>= fun _ => (again (.compLoop (.GeneratorExp elt [⟨t0, i0, [], 0⟩, ⟨t1, i1, [], 0⟩] scope pos) 0 (.ref it) .none cenv) : Sem PySem.Fin)).wrap .pure (fun e => (leaving cenv e).bind fun _ => .raise e) id id)
      T1 ok1 k1 (x.trans y11) hco part hle (fun H' hn b hb => ⟨hn b hb, (f11 b hb).2⟩) hg1 (hw1 σ8)
      (fun H' c z hc => he H' bs[i] σ8 c ((x.trans y11).trans z) hm (hgm _ _ _ _ (y11.trans z) gd) hc)
      (fun n s₀ s H' hn2 I' z => by
        have pin' : ∀ b ∈ fp, ∀ o, s7.heap.get? b = some o → s.heap.get? b = some o ∧ H' b = none := fun b hb o e =>
          let z := I'.pin (b, o) (List.mem_append_right _ (List.mem_append_right _ (mem_pinsAt hb e)))
          ⟨z.1, z.2.1⟩
        have hk9 : ∀ (j : Nat) v, (wipe σ vs)[j]? = some (some v) → (wipe σ8 [j1])[j]? = some (some v) := fun j v e => by
          rw [← hw] at e
          obtain ⟨e1, e2⟩ := wipe_some e
          rw [wipe_out fun z => e2 (by rw [List.mem_singleton.mp z]; exact hv1)]
          exact e1
        have I2 := (I'.unpinned (pins := [])).weak (σ' := wipe σ vs) (by rw [← hw, wipe_length, wipe_length]) hk9
        exact seg_again rfl (ih (i + 1) n s₀ s H' (by omega) hlt (by rw [e, List.length_append]; omega) I2 (T.keep _ _ _ st7 fun b hb o e => (pin' b hb o e).1) (fun b hb => by
          obtain ⟨o, e, _⟩ := T.obj _ _ st7 b hb
          exact (pin' b hb o e).2) ((x.trans y11).trans z)))
      (cs bs[i]).length 0 n
    have I12 := I11.weak (wipe_length σ8 [j1]) (fun j v e => (wipe_some e).1)
    have loop := fun s₀ s I st nf x => inner s₀ s H11 (Nat.sub_zero _) (Nat.zero_le _) hn I st nf x
    have loop1 := loop s₀ s10 I12 st11 (fun b hb => (f11 b hb).1) (Xt.refl H11)
    show Seg _ Ag _ _ _ s₀ _ ((compStart (.GeneratorExp elt [⟨t0, i0, [], 0⟩, ⟨t1, i1, [], 0⟩] scope pos) 1 (.ref it1) .none cenv).onRaise (fun x => do noteFrame x cenv; standAt theWindowsPlace)) _ s10
    unfold compStart
    rw [Sem.onRaise_eq_wrap]
    show Seg _ Ag _ _ _ s₀ _ ((ask >>= _).wrap _ _ _ _) _ s10
    refine seg_bind_wrap (wpAny_askSetting ?_)
    split
    · exact seg_again rfl loop1
    · first
        | exact seg_bind_wrap (wpAny_rule (seg_bind_wrap (wpAny_standAt (seg_bind_wrap (T1.self _ 0 s10 _ _ st11 (seg_again rfl loop1))))))
        | (refine seg_bind_wrap (wpAny_rule ?_); show Seg _ Ag _ _ _ s₀ _ ((standAt i1.pos >>= _).wrap _ _ _ _) _ s10; exact seg_bind_wrap (wpAny_standAt (seg_bind_wrap (T1.self _ 0 s10 _ _ st11 (seg_again rfl loop1)))))
end

def JGI (X : Cx) (scope : Scope) (k : Nat) (tg e : Expr) (σ : L2.St) (H : Hp) (ds : List PyData) : Prop := ∀ (s0 : Shared) (H0 : Hp) (cl : List (Str × Addr)) (C : Addr) (code : Value) (bi : Addr) (fp : List Addr) (A' : Around) (pn : List (Addr × Obj)), Room k A' → JIx M0 (gany X scope s0 H0 cl C code bi fp A' pn) tg e σ H ds
theorem seg_g2s {X : Cx} {t0 i0 t1 i1 elt : Expr} {scope : Scope} {gpos : Pos} {J : It} {fp : List Addr} {it : Addr} {tn : Nat → Heap → Prop} {cenv : Env} {Ag : Around} (T : Turn X.prog X.w X.K t0 J fp it tn) {n : Nat} {s₀ s : Shared} {R : GenEnd} {Y : Protocol} (st : tn 0 s.heap)
    (h : Seg (model X.prog X.w) Ag R Y n s₀ (.compLoop (.GeneratorExp elt [⟨t0, i0, [], 0⟩, ⟨t1, i1, [], 0⟩] scope gpos) 0 (.ref it) .none cenv) ((model X.prog X.w).den (.compLoop (.GeneratorExp elt [⟨t0, i0, [], 0⟩, ⟨t1, i1, [], 0⟩] scope gpos) 0 (.ref it) .none cenv)) [] s) :
      Seg (model X.prog X.w) Ag R Y n s₀ (.compStart (.GeneratorExp elt [⟨t0, i0, [], 0⟩, ⟨t1, i1, [], 0⟩] scope gpos) 0 (.ref it) .none cenv) ((model X.prog X.w).den (.compStart (.GeneratorExp elt [⟨t0, i0, [], 0⟩, ⟨t1, i1, [], 0⟩] scope gpos) 0 (.ref it) .none cenv)) [] s := by
  show Seg _ Ag _ _ _ s₀ _ ((compStart (.GeneratorExp elt [⟨t0, i0, [], 0⟩, ⟨t1, i1, [], 0⟩] scope gpos) 0 (.ref it) .none cenv).onRaise (leaving cenv)) [] s
  unfold compStart
  rw [Sem.onRaise_eq_wrap]
  show Seg _ Ag _ _ _ s₀ _ ((ask >>= _).wrap _ _ _ _) [] s
  refine seg_bind_wrap (wpAny_askSetting ?_)
  split
  · exact seg_again rfl h
  · first
      | exact seg_bind_wrap (wpAny_rule (seg_bind_wrap (wpAny_standAt (seg_bind_wrap (T.self _ 0 s _ _ st (seg_again rfl h))))))
      | (refine seg_bind_wrap (wpAny_rule ?_); show Seg _ Ag _ _ _ s₀ _ ((standAt i0.pos >>= _).wrap _ _ _ _) [] s; exact seg_bind_wrap (wpAny_standAt (seg_bind_wrap (T.self _ 0 s _ _ st (seg_again rfl h)))))
theorem j_all2 {X : Cx} {σ : L2.St} {H : Hp} {β : Type} {t0 i0 t1 i1 elt : Expr} {scope : Scope} {own : List (Str × Nat)} {gpos pos p : Pos} {g : TG} {j1 : Nat} {bs : List β} {enc : β → PyData} {cs : β → List Int} {t : Int → Bool} {Gd : β → L2.St → Hp → Prop} {c P : Addr} {k : Nat}
    (hr : Room (k + 1) X.A) (hgl : Gl X "all") (hm : X.mg "all" = none) (TB : GxR.TabB X.base X.mg c P) (hcode : X.env.code = .ref c) (G : GOk X scope own) (nd : X.N.Nodup) (tab : GxR.TabG H P) (hv1 : j1 ∈ own.map (·.2))
    (h : JIx M0 X t0 i0 σ H (bs.map enc)) (hgt : TgOk M0 H σ g (own.map (·.2)) bs enc Gd) (hgm : ∀ H2 H3 b σ2, Xt M0 H2 H3 → Gd b σ2 H2 → Gd b σ2 H3) (hw1 : ∀ σ2 (v : V), wipe ((wipe σ2 [j1]).set j1 (some v)) [j1] = wipe σ2 [j1])
    (hgp : ∀ (s0 : Shared) (H0 : Hp) (cl : List (Str × Addr)) (C : Addr) (code : Value) (bi : Addr) (fp : List Addr) (A' : Around) (pn : List (Addr × Obj)), PG (gany X scope s0 H0 cl C code bi fp A' pn) t0 g)
    (hgp1 : ∀ (s0 : Shared) (H0 : Hp) (cl : List (Str × Addr)) (C : Addr) (code : Value) (bi : Addr) (fp : List Addr) (A' : Around) (pn : List (Addr × Obj)), PG (gany X scope s0 H0 cl C code bi fp A' pn) t1 (gName j1))
    (hi : ∀ H1 b σ2, Xt M0 H H1 → b ∈ bs → Gd b σ2 H1 → JGI X scope k t1 i1 σ2 H1 ((cs b).map .int))
    (he : ∀ H1 b σ2 c, Xt M0 H H1 → b ∈ bs → Gd b σ2 H1 → c ∈ cs b → JGK X scope k elt ((wipe σ2 [j1]).set j1 (some (.int c))) H1 (kB (t c))) (hs : ∀ v, genFold i0 X.env v = pure v := by intro _; rfl) (hs1 : ∀ env v, foldedSetIterable i1 env v = pure v := by intro _ _; rfl) (hb : bootBuiltins "all" = some (.builtin "all") := by rfl)
    (hst : starEach [(.GeneratorExp elt [⟨t0, i0, [], 0⟩, ⟨t1, i1, [], 0⟩] scope gpos)] X.env = (false, eval (.GeneratorExp elt [⟨t0, i0, [], 0⟩, ⟨t1, i1, [], 0⟩] scope gpos) X.env) :: starEach [] X.env := by rfl) :
    JK M0 X (.Call (.Name "all" p) [(.GeneratorExp elt [⟨t0, i0, [], 0⟩, ⟨t1, i1, [], 0⟩] scope gpos)] [] pos) σ H (kB ((bs.flatMap cs).all t)) := by
  intro H0 x Q q pins s I
  refine wpAny_Call_Name_kw (ld_blt I hgl hm hb ?_)
  refine PyProof.Rows.callWith_builtin1 ?_ hst (by rfl)
  rw [hst]
  show wpAny _ _ (spliced ((false, eval (.GeneratorExp elt [⟨t0, i0, [], 0⟩, ⟨t1, i1, [], 0⟩] scope gpos) X.env) :: backTo pos (starEach [] X.env))) _ _ s
  refine Calls.spliced_cons (gen_core (ts := (bs.flatMap cs).map t) hr TB hcode G nd (x.tab P tab) hs (fun H3 y => h H3 (x.trans y)) I ?_ ?_)
  · intro J Kp H2 fp ita a tn s4 code go s₀ s' T ok k0 y ha nf st I5 hrm
    refine seg_g2s T st ?_
    exact seg_g2 cs T ok k0 ha G.co hv1 (hgp _ _ _ _ _ _ _ _ _) ((hgt.up x).up y) hgm (hgp1 _ _ _ _ _ _ _ _ _) hw1 (fun H' b σ2 z hb gd => hi H' b σ2 ((x.trans y).trans z) hb gd _ _ _ _ _ _ _ _ _ hrm)
      (fun H' b σ2 c z hb gd hc => he H' b σ2 c ((x.trans y).trans z) hb gd hc _ _ _ _ _ _ _ _ _ hrm) (hs1 _) bs.length 0 _ s₀ s' H2 (Nat.sub_zero _) (Nat.zero_le _) (by simp) I5 st nf (Xt.refl H2)
  · intro a gn go St s5 Fi hg h0 item done fin after _
    refine Calls.spliced_nil ?_
    refine call_allG hg h0 item done fin after fun H' z => ?_
    have e : ((bs.flatMap cs).map t).all id = (bs.flatMap cs).all t := by rw [List.all_map]; rfl
    rw [e]
    exact q _ H' z kB_of
end K68

set_option Elab.async false
set_option linter.all false
set_option maxRecDepth 100000
set_option maxHeartbeats 4000000
/-! K68, text A6: sets, sorted, min, equality with [], pairs by order, list(range(n)), dicts. -/
namespace K68
open PySem PySem.Spec L2
open PyProof.Rows hiding St
/-! ### distinct -/
def dd : List Int → List Int
  | [] => []
  | x :: r => if x ∈ r then dd r else x :: dd r
theorem dd_mem : ∀ (l : List Int) (k : Int), k ∈ dd l ↔ k ∈ l
  | [], k => Iff.rfl
  | x :: r, k => by
    unfold dd
    by_cases h : x ∈ r
    · rw [if_pos h, dd_mem r k, List.mem_cons]
      exact ⟨.inr, fun z => z.elim (fun e => e ▸ h) id⟩
    · rw [if_neg h, List.mem_cons, List.mem_cons, dd_mem r k]
theorem dd_nd : ∀ (l : List Int), (dd l).Nodup
  | [] => List.nodup_nil
  | x :: r => by
    unfold dd
    by_cases h : x ∈ r
    · rw [if_pos h]; exact dd_nd r
    · rw [if_neg h, List.nodup_cons]
      exact ⟨fun z => h ((dd_mem r x).mp z), dd_nd r⟩
theorem dd_le : ∀ (l : List Int), (dd l).length ≤ l.length
  | [] => Nat.le_refl _
  | x :: r => by
    unfold dd
    have := dd_le r
    by_cases h : x ∈ r
    · rw [if_pos h, List.length_cons]; omega
    · rw [if_neg h, List.length_cons, List.length_cons]; omega
theorem dd_eq : ∀ (l : List Int), l.Nodup → dd l = l
  | [], _ => rfl
  | x :: r, h => by
    rw [List.nodup_cons] at h
    unfold dd
    rw [if_neg h.1, dd_eq r h.2]
theorem dd_full : ∀ (l : List Int), (dd l).length = l.length → l.Nodup
  | [], _ => List.nodup_nil
  | x :: r, h => by
    unfold dd at h
    have := dd_le r
    by_cases hx : x ∈ r
    · rw [if_pos hx, List.length_cons] at h; omega
    · rw [if_neg hx, List.length_cons, List.length_cons] at h
      rw [List.nodup_cons]
      exact ⟨hx, dd_full r (by omega)⟩
theorem same_len : ∀ (a b : List Int), a.Nodup → b.Nodup → (∀ k, k ∈ a ↔ k ∈ b) → a.length = b.length := by
  have le : ∀ (a b : List Int), a.Nodup → (∀ k, k ∈ a → k ∈ b) → a.length ≤ b.length := by
    intro a
    induction a with
    | nil => intro b _ _; exact Nat.zero_le _
    | cons x r ih =>
      intro b nd h
      rw [List.nodup_cons] at nd
      have hx : x ∈ b := h x List.mem_cons_self
      have h2 := ih (b.erase x) nd.2 fun k hk => (List.mem_erase_of_ne (fun e => nd.1 (by rw [← e]; exact hk))).mpr (h k (List.mem_cons_of_mem _ hk))
      rw [List.length_erase_of_mem hx] at h2
      have := List.length_pos_of_mem hx
      rw [List.length_cons]
      omega
  exact fun a b ha hb h => Nat.le_antisymm (le a b ha fun k => (h k).mp) (le b a hb fun k => (h k).mpr)
/-! ### a set, by its size -/
def SetX (P : Program) (w : World) (a : Addr) (n : Nat) : HO := .ext fun h => ∃ S, h.SetOf (intKind P w) a S n
theorem setX_new {P : Program} {w : World} {H : Hp} {h : Heap} {a : Addr} {n : Nat} (R : ∃ S, h.SetOf (intKind P w) a S n) : ObjOk P w H h a (SetX P w a n) := by
  have ⟨S, o, es, ep, t, ho, r⟩ := R
  exact ⟨R, ⟨o, ho⟩, fun h1 h2 ⟨S, o, es, ep, t, ho, r⟩ k => ⟨S, o, es, ep, t, k o ho, r⟩⟩
def kSet (P : Program) (w : World) (n : Nat) : Kn := fun H v => ∃ a, v = .ref a ∧ H a = some (SetX P w a n)
section
variable {M : Md} {X : Cx} {K : Kn} {pins : List (Addr × Obj)} {σ : L2.St} {H : Hp} {s : Shared}
theorem ck_setT {ns : List Int} (hc : X.calm = true) (hl : ns.length ≤ 1000) : CallK M X (.type "set") [kD (.tuple (ns.map .int))] (kSet X.prog X.w (dd ns).length) :=
  ⟨fun vs H Q => ∃ p, vs = [.ref p] ∧ SqT X.K H p (ns.map V.int) ∧ ∀ a, H a = none → Q (.ref a) (upd H a (SetX X.prog X.w a (dd ns).length)), by
    intro pins s σ H xs us Q I r h
    obtain ⟨p, rfl, hq, q⟩ := h
    rw [Vals.ref1 r]
    obtain ⟨its, rv, pt, hz⟩ := I.tuple hq
    have hi : IntsAre its.toArray.toList ns := rv.ints
    refine call_set_tupI ns (I.ok.hd hc) (show s.heap.IsTuple p its.toArray from pt) hi (by unfold scanBound; omega) fun h' tk c R1 hcn k => ?_
    have hS := R1.setOf (P := X.prog)
    obtain ⟨o, es, ep, t, ho, hex, hdt, g, nd, hm2, hb, hf, hn, hr, hl2⟩ := R1
    have e : c = (dd ns).length := by
      rw [← hn, show es.size = (es.toList.map keyOf).length by simp]
      refine same_len _ _ nd (dd_nd ns) fun j => ?_
      rw [← hm2 j, decide_eq_true_eq, dd_mem]
    rw [e] at hS
    exact ⟨.ref s.heap.objs.size, upd H s.heap.objs.size (SetX X.prog X.w s.heap.objs.size (dd ns).length), I.laid (t' := tk) k (Nat.le_refl _) (setX_new ⟨_, hS⟩), rfl, q _ (I.hok.fresh (Nat.le_refl _))⟩,
  fun H vs Q k q => by
    obtain ⟨v, rfl, kv⟩ := k1 k
    obtain ⟨p, xs, rfl, e, r⟩ := rp_tup kv
    rw [r.ints] at e
    exact ⟨p, rfl, SqT.of e, fun a ha => q _ _ (Xt.new ha) ⟨a, rfl, upd_same⟩⟩⟩
theorem first_nd (val : Nat → Int) : ∀ i, (PyProof.Rows.firstMet val i).Nodup
  | 0 => List.nodup_nil
  | i + 1 => by
    have ih := first_nd val i
    rw [PyProof.Rows.firstMet_succ]
    unfold PyProof.Rows.step_dedup
    split
    · exact ih
    · rename_i h
      rw [List.nodup_append]
      refine ⟨ih, by simp, fun a ha b hb e => h ?_⟩
      rw [List.mem_singleton] at hb
      subst hb
      subst e
      rw [List.any_eq_true]
      exact ⟨_, ha, by simp⟩
theorem first_mem (ns : List Int) (k : Int) : k ∈ PyProof.Rows.firstMet (fun i => ns.getD i 0) ns.length ↔ k ∈ ns := by
  have h := PyProof.Rows.firstMet_any (fun i => ns.getD i 0) ns.length k
  have e : (List.range ns.length).map (fun i => ns.getD i 0) = ns := by
    refine List.ext_getElem (by simp) fun i h1 h2 => ?_
    simp only [List.getElem_map, List.getElem_range]
    rw [List.getD_eq_getElem?_getD, List.getElem?_eq_getElem h2]
    rfl
  rw [e] at h
  have a : ∀ (l : List Int), l.any (· == k) = true ↔ k ∈ l := fun l => by
    rw [List.any_eq_true]
    exact ⟨fun ⟨x, hx, e⟩ => by rw [beq_iff_eq] at e; rw [← e]; exact hx, fun h => ⟨k, h, by simp⟩⟩
  rw [← a, h, a]
theorem ck_setL {ns : List Int} (hc : X.calm = true) (hl : ns.length ≤ 1000) : CallK M X (.type "set") [kL M (ns.map .int)] (kSet X.prog X.w (dd ns).length) :=
  ⟨fun vs H Q => ∃ p, vs = [.ref p] ∧ SqL X.K H p (ns.map V.int) ∧ ∀ a, H a = none → Q (.ref a) (upd H a (SetX X.prog X.w a (dd ns).length)), by
    intro pins s σ H xs us Q I r h
    obtain ⟨p, rfl, hq, q⟩ := h
    rw [Vals.ref1 r]
    obtain ⟨its, rv, pt, hz⟩ := I.list hq
    have hi : IntsAre its.toArray.toList ns := rv.ints
    have hlen : its.length = ns.length := by rw [← rv.length, List.length_map]
    refine PySem.call_set_list (I.ok.hd hc) pt.isList hi (by unfold scanBound; simp only [List.size_toArray]; omega) fun h' tk hS k => ?_
    simp only [List.size_toArray, hlen] at hS
    have e : (PyProof.Rows.firstMet (fun i => ns.getD i 0) ns.length).length = (dd ns).length := same_len _ _ (first_nd _ _) (dd_nd ns) fun j => by rw [first_mem, dd_mem]
    rw [e] at hS
    exact ⟨.ref s.heap.objs.size, upd H s.heap.objs.size (SetX X.prog X.w s.heap.objs.size (dd ns).length), I.laid (t' := tk) (fun b o e => k b o (Heap.lt_size e) e) (Nat.le_refl _) (setX_new ⟨_, hS⟩), rfl, q _ (I.hok.fresh (Nat.le_refl _))⟩,
  fun H vs Q k q => by
    obtain ⟨v, rfl, kv⟩ := k1 k
    obtain ⟨p, xs, rfl, e, r, _⟩ := kv
    rw [r.ints] at e
    exact ⟨p, rfl, SqL.of e, fun a ha => q _ _ (Xt.new ha) ⟨a, rfl, upd_same⟩⟩⟩
theorem ck_lenS {n : Nat} : CallK M X (.builtin "len") [kSet X.prog X.w n] (kI (n : Int)) :=
  ⟨fun vs H Q => ∃ a, vs = [.ref a] ∧ H a = some (SetX X.prog X.w a n) ∧ Q (.int n) H, by
    intro pins s σ H xs us Q I r h
    obtain ⟨a, rfl, ha, q⟩ := h
    rw [Vals.ref1 r]
    obtain ⟨S, o, es, ep, t, ho, hex, hdt, g, hm, hb, hf, hn⟩ := (I.hok a _ ha).1
    have hb2 : es.size < 2 ^ 63 := Nat.lt_trans hb (by unfold scanBound; decide)
    refine PySem.call_len_set ho hex hdt hf (by omega) ?_
    exact ⟨.int n, H, I.tok _, ⟨_, by rw [hn]⟩, q⟩,
  fun H vs Q k q => by
    obtain ⟨v, rfl, kv⟩ := k1 k
    obtain ⟨a, rfl, ha⟩ := kv
    exact ⟨a, rfl, ha, q _ H (Xt.refl H) kI_of⟩⟩
end
end K68

set_option Elab.async false
set_option linter.all false
set_option maxRecDepth 100000
set_option maxHeartbeats 4000000
/-! K68, text A6b: sorted, min, equality with [], pairs by order. -/
namespace K68
open PySem PySem.Spec L2 PySem.W
open PyProof.Rows hiding St
/-- what a sorted list's items stand for -/
def RV (H : Hp) {β : Type} (enc : β → PyData) (u : Value) (b : β) : Prop := ∃ v, RelV v u ∧ Rp H v (enc b)
section
variable {M : Md} {X : Cx} {K : Kn} {pins : List (Addr × Obj)} {σ : L2.St} {H : Hp} {s : Shared} {β : Type} {enc : β → PyData}
theorem each_rv : ∀ {xs : List V} {us : List Value} {bs : List β}, Vals xs us → RpL H xs (bs.map enc) → EachIs (RV H enc) us bs
  | [], _, [], r, h => by cases r; exact .nil
  | [], _, b :: bs, r, h => by rw [List.map_cons] at h; cases h
  | x :: xs, _, [], r, h => by rw [List.map_nil] at h; cases h
  | x :: xs, _, b :: bs, r, h => by
    rw [List.map_cons] at h
    cases r with
    | cons r1 r2 =>
      cases h with
      | cons h1 h2 => exact .cons ⟨x, r1, h1⟩ (each_rv r2 h2)
theorem rv_back : ∀ {us : List Value} {bs : List β}, EachIs (RV H enc) us bs → ∃ xs, Vals xs us ∧ RpL H xs (bs.map enc)
  | [], [], _ => ⟨[], .nil, .nil⟩
  | u :: us, b :: bs, h => by
    cases h with
    | cons h1 h2 =>
      obtain ⟨v, r, p⟩ := h1
      obtain ⟨xs, r2, p2⟩ := rv_back h2
      exact ⟨v :: xs, .cons r r2, .cons p p2⟩
  | [], _ :: _, h => by cases h
  | _ :: _, [], h => by cases h
theorem each_reads (I : Inv X pins σ H s) : ∀ {us : List Value} {bs : List β}, EachIs (RV H enc) us bs → EachIs (fun v b => ∃ as, Reads s.heap v (enc b) as) us bs
  | [], [], _ => .nil
  | u :: us, b :: bs, h => by
    cases h with
    | cons h1 h2 =>
      obtain ⟨v, r, p⟩ := h1
      exact .cons (Dp.reads I (enc b) v u (Rp.dp (enc b) p) r) (each_reads I h2)
  | [], _ :: _, h => by cases h
  | _ :: _, [], h => by cases h
def sortD {β : Type} (enc : β → PyData) (bs : List β) : List β := bs.mergeSort (dataLe false enc)
theorem ck_sortL {bs : List β} (hal : AllAlike (bs.map enc)) (hk : Sortable (bs.map enc)) (hd : ∀ b ∈ bs, (enc b).depth ≤ 20) (hu : X.A.units + 40 < cLine) : CallL M X (.builtin "sorted") [kL M (bs.map enc)] ((sortD enc bs).map enc) :=
  ⟨fun vs H Q => ∃ p xs, vs = [.ref p] ∧ SqL X.K H p xs ∧ RpL H xs (bs.map enc) ∧ ∀ a ys, H a = none → RpL H ys ((sortD enc bs).map enc) → Q (.ref a) (upd H a (.lst ys)), by
    intro pins s σ H xs us Q I r h
    obtain ⟨p, xs, rfl, hq, hr, q⟩ := h
    rw [Vals.ref1 r]
    obtain ⟨its, rv, pt, hz⟩ := I.list hq
    have e := each_rv rv hr
    have hlen : bs.length ≤ sizeLine := by rw [← List.length_map (f := enc), ← hr.length]; exact hz
    refine sorted_data (R := RV H enc) pt.isList e (each_reads I e) hal hk hlen (fun b hb => by have := hd b hb; omega) fun out ho eo => ?_
    obtain ⟨ys, r2, p2⟩ := rv_back eo
    obtain ⟨ep, he'⟩ := PyProof.Rows.sortedAll_at s.heap its out.toArray
    have hz2 : ys.length ≤ sizeLine := by rw [r2.length, ho]; exact hlen
    exact ⟨.ref (s.heap.objs.size + 1), upd H (s.heap.objs.size + 1) (.lst ys), I.laid (t' := s.toks) (fun _ _ => PyProof.Rows.sortedAll_old) (Nat.le_succ _) ⟨hz2, out, ep, r2, he'⟩, rfl, q _ ys (I.hok.fresh (Nat.le_succ _)) p2⟩,
  fun H vs Q k q => by
    obtain ⟨v, rfl, kv⟩ := k1 k
    obtain ⟨p, xs, rfl, e, r, _⟩ := kv
    exact ⟨p, xs, rfl, SqL.of e, r, fun a ys ha hy => q a ys _ ha (Xt.new ha) upd_same (RpL.tm (Xt.new (M := M) ha).tm _ hy)⟩⟩
end
end K68

set_option Elab.async false
set_option linter.all false
set_option maxRecDepth 100000
set_option maxHeartbeats 4000000
/-! K68, text A6c: sorted of a tuple, of a dict; min; equality with []; pairs by order; list(range(n)). -/
namespace K68
open PySem PySem.Spec L2 PySem.W PySem.Calls
open PyProof.Rows hiding St
section
variable {prog : Program} {w : World} {A : Around} {E : Value → Shared → Prop} {s : Shared}
theorem collect_tup {l : Addr} {vs : List Value} {Q : List Value → Shared → Prop} (hl : s.heap.IsTuple l vs.toArray)
    (h : Q vs { s with heap := (s.heap.push (seqObj "list" #[] 0)).update s.heap.objs.size (Obj.mapSeq (· ++ vs.toArray)) }) (hsz : vs.length ≤ sizeLine) :
    wpAny (model prog w) A (collect (.ref l)) Q E s := by
  obtain ⟨o, ho, hc, n, hd⟩ := id hl
  unfold collect
  refine wpAny_bind (wpAny_runValue (codeAny_builtin entry_proto_collect' ?_))
  show wpAny _ _ (do again (.builtin "list.__iadd__" ⟨[← newList [], .ref l], []⟩)) _ _ s
  refine wpAny_bind (wpAny_newList (wpAny_pure ⟨Code.quiet_builtin _ (by decide +kernel), codeAny_builtin entry_list_iadd' ?_⟩))
  show wpAny _ _ (Builtin.List.listExtendWith (.ref s.heap.objs.size) (.ref l) (.ref s.heap.objs.size)) _ _ { s with heap := s.heap.push (seqObj "list" #[] 0) }
  unfold Builtin.List.listExtendWith
  have ho' : (s.heap.push (seqObj "list" #[] 0)).get? l = some o := Heap.get?_push_of_some _ ho
  refine wpAny_bind (wpAny_typeOf (T := "tuple") ⟨o, ho', hc⟩ ?_)
  have ht : (Value.type "tuple" == Value.type "tuple") = true := by rfl
  rw [if_pos (by rw [ht]; simp)]
  refine wpAny_bind (listItems_at ho' hd ?_)
  refine wpAny_bind (listItems_at (xs := #[]) (n := 0) (Heap.get?_push_size _ rfl) rfl ?_)
  rw [if_neg (by simp)]
  refine wpAny_bind (listUpdate_at (xs := #[]) (n := 0) (Heap.get?_push_size _ rfl) rfl ?_ (Nat.zero_le _) (by show (#[] ++ vs.toArray).size ≤ sizeLine + 1; simp only [Array.size_append, List.size_toArray, List.length_nil]; omega))
  refine wpAny_pure ?_
  show wpAny (model prog w) A (do
      let o ← load s.heap.objs.size
      match o.data with
      | .seq xs _ => pure xs.toList
      | _ => unsupported "internal:collect") Q E { s with heap := (s.heap.push (seqObj "list" #[] 0)).update s.heap.objs.size (Obj.mapSeq (· ++ vs.toArray)) }
  refine wpAny_bind (wpAny_load (get?_update_seq (Heap.get?_push_size _ rfl) _) ?_)
  show wpAny _ _ (pure ((#[] : Array Value) ++ vs.toArray).toList) Q E _
  rw [show ((#[] : Array Value) ++ vs.toArray).toList = vs by simp]
  exact wpAny_pure h
theorem sorted_of_sortT {l : Addr} {vs : List Value} {Q : Value → Shared → Prop} (hl : s.heap.IsTuple l vs.toArray) (hL : vs.length ≤ sizeLine)
    (body : ∀ E' : Value → Shared → Prop, wpAny (model prog w) A.in1.in1 (Builtin.«list.sort» ⟨[.ref (s.heap.objs.size + 1)], []⟩) (fun f s' => f = .done (.ret .none) ∧ Q (.ref (s.heap.objs.size + 1)) s') E' { s with heap := copyHeap s.heap vs }) :
    wpAny (model prog w) A (call (.builtin "sorted") [.ref l]) Q E s := by
  refine call_function_entry_kw kind_sorted plain_sorted entry_sorted (args_sorted1 _) ?_
  unfold Builtin.«sorted»
  refine wpAny_bind (m := checkCount "sorted" 1 1 _) (wpAny_pure ?_)
  refine wpAny_bind (collect_tup hl ?_ hL)
  refine wpAny_bind (wpAny_newList ?_ hL)
  have hsz : ((s.heap.push (seqObj "list" #[] 0)).update s.heap.objs.size (Obj.mapSeq (· ++ vs.toArray))).objs.size = s.heap.objs.size + 1 := by
    rw [Heap.size_update, size_push']
  show wpAny _ _ _ _ _ { s with heap := copyHeap s.heap vs }
  rw [hsz]
  refine wpAny_bind (wpAny_holding (wpAny_call_entry_kw slot_list_sort ⟨_, copyHeap_at s.heap vs, rfl⟩ entry_list_sort ?body (args_list_sort _)))
  case body =>
    show wpAny (model prog w) A.in1.in1 (Builtin.«list.sort» ⟨[.ref (s.heap.objs.size + 1)], []⟩) _ _ _
    refine wpAny_mono (body _) (fun f s' hf => ?_) fun _ _ e => e
    obtain ⟨rfl, hq⟩ := hf
    exact ⟨_, rfl, wpAny_pure ⟨_, rfl, hq⟩⟩
theorem sorted_dataT {β : Type} {vs : List Value} {bs : List β} {enc : β → PyData} {R : Value → β → Prop} {l : Addr} {Q : Value → Shared → Prop} (hl : s.heap.IsTuple l vs.toArray) (e : EachIs R vs bs) (er : EachIs (fun v b => ∃ as, Reads s.heap v (enc b) as) vs bs) (hal : AllAlike (bs.map enc)) (hk : Sortable (bs.map enc)) (hL : bs.length ≤ sizeLine)
    (hu : ∀ b, b ∈ bs → A.units + 2 + (enc b).depth < cLine) (h : ∀ out, out.length = bs.length → EachIs R out (bs.mergeSort (dataLe false enc)) → Q (.ref (s.heap.objs.size + 1)) { s with heap := sortedAll s.heap vs (List.toArray out) }) :
    wpAny (model prog w) A (call (.builtin "sorted") [.ref l]) Q E s := by
  have er' : EachIs (fun v b => ∃ as, Reads (sortingHeap (copyHeap s.heap vs) (s.heap.objs.size + 1) vs) v (enc b) as) vs bs := er.mono fun _ _ ⟨as, r⟩ => ⟨as, PyProof.Rows.Reads.keeps (fun _ _ => sorting_copy_old) r⟩
  have S := SortsAt.data (prog := prog) (w := w) (A := A.in1.in1) (s := { s with heap := sortingHeap (copyHeap s.heap vs) (s.heap.objs.size + 1) vs }) (each_map (R := fun v d => ∃ as, Reads (sortingHeap (copyHeap s.heap vs) (s.heap.objs.size + 1) vs) v d as) enc er') hal hk (bound_map (A := A.in1.in1) hu)
  refine sorted_of_sortT hl (by rw [e.length]; exact hL) fun E' => list_sort_vals (s := { s with heap := copyHeap s.heap vs }) (copyHeap_at s.heap vs) S (by rw [e.length]; exact hL) ⟨rfl, ?_⟩
  exact h _ (by rw [sortVals_length false rfl]; exact e.length) (sortVals_data false e er' hal)
end
section
variable {M : Md} {X : Cx} {K : Kn} {pins : List (Addr × Obj)} {σ : L2.St} {H : Hp} {s : Shared} {β : Type} {enc : β → PyData}
theorem ck_sortT {bs : List β} (hal : AllAlike (bs.map enc)) (hk : Sortable (bs.map enc)) (hd : ∀ b ∈ bs, (enc b).depth ≤ 20) (hu : X.A.units + 40 < cLine) : CallL M X (.builtin "sorted") [kD (.tuple (bs.map enc))] ((sortD enc bs).map enc) :=
  ⟨fun vs H Q => ∃ p xs, vs = [.ref p] ∧ SqT X.K H p xs ∧ RpL H xs (bs.map enc) ∧ ∀ a ys, H a = none → RpL H ys ((sortD enc bs).map enc) → Q (.ref a) (upd H a (.lst ys)), by
    intro pins s σ H xs us Q I r h
    obtain ⟨p, xs, rfl, hq, hr, q⟩ := h
    rw [Vals.ref1 r]
    obtain ⟨its, rv, pt, hz⟩ := I.tuple hq
    have e := each_rv rv hr
    have hlen : bs.length ≤ sizeLine := by rw [← List.length_map (f := enc), ← hr.length]; exact hz
    refine sorted_dataT (R := RV H enc) (show s.heap.IsTuple p its.toArray from pt) e (each_reads I e) hal hk hlen (fun b hb => by have := hd b hb; omega) fun out ho eo => ?_
    obtain ⟨ys, r2, p2⟩ := rv_back eo
    obtain ⟨ep, he'⟩ := PyProof.Rows.sortedAll_at s.heap its out.toArray
    have hz2 : ys.length ≤ sizeLine := by rw [r2.length, ho]; exact hlen
    exact ⟨.ref (s.heap.objs.size + 1), upd H (s.heap.objs.size + 1) (.lst ys), I.laid (t' := s.toks) (fun _ _ => PyProof.Rows.sortedAll_old) (Nat.le_succ _) ⟨hz2, out, ep, r2, he'⟩, rfl, q _ ys (I.hok.fresh (Nat.le_succ _)) p2⟩,
  fun H vs Q k q => by
    obtain ⟨v, rfl, kv⟩ := k1 k
    obtain ⟨p, xs, rfl, e, r⟩ := rp_tup kv
    exact ⟨p, xs, rfl, SqT.of e, r, fun a ys ha hy => q a ys _ ha (Xt.new ha) upd_same (RpL.tm (Xt.new (M := M) ha).tm _ hy)⟩⟩
end
end K68

set_option Elab.async false
set_option linter.all false
set_option maxRecDepth 100000
set_option maxHeartbeats 4000000
/-! K68, text A6d: sorted of a dict; min; equality with []; pairs by order; list(range(n)). -/
namespace K68
open PySem PySem.Spec L2 PySem.W PySem.Calls
open PyProof.Rows hiding St
theorem sorted_uniq : ∀ {a b : List Int}, a.Perm b → a.Pairwise (· ≤ ·) → b.Pairwise (· ≤ ·) → a = b
  | [], b, h, _, _ => (List.Perm.eq_nil h.symm).symm
  | x :: a, [], h, _, _ => absurd h.length_eq (by simp)
  | x :: a, y :: b, h, ha, hb => by
    rw [List.pairwise_cons] at ha hb
    have h1 : x ≤ y := by
      rcases List.mem_cons.mp (h.mem_iff.mpr (List.mem_cons_self (a := y) (l := b))) with e | m
      · omega
      · exact ha.1 y m
    have h2 : y ≤ x := by
      rcases List.mem_cons.mp (h.mem_iff.mp (List.mem_cons_self (a := x) (l := a))) with e | m
      · omega
      · exact hb.1 x m
    have e : x = y := by omega
    subst e
    rw [sorted_uniq h.cons_inv ha.2 hb.2]
def sortI (ks : List Int) : List Int := ks.mergeSort (fun a b => decide (a ≤ b))
theorem sortI_perm (ks : List Int) : (sortI ks).Perm ks := List.mergeSort_perm _ _
theorem sortI_asc (ks : List Int) : (sortI ks).Pairwise (· ≤ ·) := by
  have h := List.pairwise_mergeSort (le := fun a b : Int => decide (a ≤ b)) (fun a b c h1 h2 => by
    simp only [decide_eq_true_eq] at *; omega) (fun a b => by
    simp only [Bool.or_eq_true, decide_eq_true_eq]; omega) ks
  exact h.imp fun h => by simpa using h
theorem sortI_mem {ks : List Int} {k : Int} : k ∈ sortI ks ↔ k ∈ ks := (sortI_perm ks).mem_iff
section
variable {M : Md} {X : Cx} {K : Kn} {pins : List (Addr × Obj)} {σ : L2.St} {H : Hp} {s : Shared} {β : Type} {enc : β → PyData}
theorem ck_sortD {kvs : List (Key × V)} {ks : List Int} (hc : X.calm = true) (hk : kvs.map (·.1) = ks.map Sum.inl) (h64 : ks.length < 64) : CallL M X (.builtin "sorted") [kK M kvs] ((sortI ks).map .int) := ⟨_, call_sortedDI hc, fun H vs Q k q => by
  obtain ⟨v, rfl, kv⟩ := k1 k
  obtain ⟨p, rfl, e, _⟩ := kv
  refine ⟨p, kvs, ks, rfl, e, hk, h64, fun ys a hp hw ha => ?_⟩
  have e : ys = sortI ks := sorted_uniq (hp.trans (sortI_perm ks).symm) hw (sortI_asc ks)
  rw [e]
  exact q a _ _ ha (Xt.new ha) upd_same (RpL.of_ints _)⟩
/-! ### min of a list of data -/
theorem ck_minL {b : β} {bs : List β} (hc : X.calm = true) (ha : AlikeAll ((b :: bs).map enc)) (hd : PyData.depthAll ((b :: bs).map enc) ≤ 20) (hu : X.A.units + 40 < cLine) {m : PyData} (hm : minD (enc b) (bs.map enc) = m) (hcl : ∀ d ∈ (b :: bs).map enc, d.canLay0 = true) :
    CallK M X (.builtin "min") [kL M ((b :: bs).map enc)] (kD m) :=
  ⟨fun vs H Q => ∃ p xs, vs = [.ref p] ∧ SqL X.K H p xs ∧ RpL H xs ((b :: bs).map enc) ∧ ∀ v, Rp H v m → Q v H, by
    intro pins s σ H xs us Q I r h
    obtain ⟨p, xs, rfl, hq, hr, q⟩ := h
    rw [Vals.ref1 r]
    obtain ⟨its, rv, pt, hz⟩ := I.list hq
    obtain ⟨as, ra⟩ := Dp.readsAll I _ xs its (RpL.dp _ hr) rv
    refine min_list_data (vs := its.toArray) (x := enc b) (xs := bs.map enc) (as := as) (I.ok.hd hc) pt.isList (by simpa using ra) ha (by have hd' : PyData.depthAll (enc b :: bs.map enc) ≤ 20 := hd; omega) fun i v h' tk cs hi hrd hk => ?_
    have hi : its[i]? = some v := by simpa using hi
    have hlt : i < xs.length := by rw [rv.length]; exact (List.getElem?_eq_some_iff.mp hi).1
    obtain ⟨u, e1, r1⟩ := rv.get (i := i) (x := xs[i]) (by simp [hlt])
    rw [hi] at e1
    cases e1
    obtain ⟨d, hd1, hd2⟩ := hr.at (i := i) (v := xs[i]) (by simp [hlt])
    rw [hm] at hrd
    have I' : Inv X pins σ H { s with heap := h', toks := tk } := I.kept hk
    obtain ⟨ds, rd⟩ := Dp.reads I' d xs[i] v (Rp.dp d hd2) r1
    have e : d = m := SeqAt.Reads.unique _ _ _ _ _ (hcl d (List.mem_of_getElem? hd1)) rd hrd
    subst e
    exact ⟨xs[i], H, I', r1, q _ hd2⟩,
  fun H vs Q k q => by
    obtain ⟨v, rfl, kv⟩ := k1 k
    obtain ⟨p, xs, rfl, e, r, _⟩ := kv
    exact ⟨p, xs, rfl, SqL.of e, r, fun v hv => q v H (Xt.refl H) hv⟩⟩
/-! ### equality with [] and (), of what can be laid -/
theorem shp_list {ds : List PyData} (h : ∀ d ∈ ds, d.canLay0 = true ∧ d.depth ≤ 20) : SeqAt.shaped (.list ds) = true ∧ SeqAt.shaped (.tuple ds) = true := by
  have a : ∀ ds : List PyData, (∀ d ∈ ds, d.canLay0 = true ∧ d.depth ≤ 20) → PyData.canLayAll0 ds = true ∧ PyData.depthAll ds ≤ 20 := by
    intro ds
    induction ds with
    | nil => intro _; exact ⟨rfl, Nat.zero_le _⟩
    | cons d r ih =>
      intro h
      obtain ⟨i1, i2⟩ := ih fun x hx => h x (List.mem_cons_of_mem _ hx)
      obtain ⟨j1, j2⟩ := h d List.mem_cons_self
      refine ⟨?_, ?_⟩
      · show (PyData.canLay0 d && PyData.canLayAll0 r) = true
        rw [j1, i1]; rfl
      · simp only [PyData.depthAll]
        omega
  obtain ⟨h1, h2⟩ := a ds h
  unfold SeqAt.shaped
  refine ⟨?_, ?_⟩
  · rw [Bool.and_eq_true]
    exact ⟨by simpa [PyData.canLay0] using h1, decide_eq_true (by simp only [PyData.depth]; omega)⟩
  · rw [Bool.and_eq_true]
    exact ⟨by simpa [PyData.canLay0] using h1, decide_eq_true (by simp only [PyData.depth]; omega)⟩
theorem eqv_nil (ds : List PyData) : PyData.eqv (.list ds) (.list []) = decide (ds = []) ∧ PyData.eqv (.tuple ds) (.tuple []) = decide (ds = []) := by
  cases ds with
  | nil => exact ⟨by simp [PyData.eqv, PyData.eqvAll], by simp [PyData.eqv, PyData.eqvAll]⟩
  | cons d r => exact ⟨by simp [PyData.eqv, PyData.eqvAll], by simp [PyData.eqv, PyData.eqvAll]⟩
theorem kl_dp {ds : List PyData} {v : V} (h : kL M ds H v) : Dp X.K H v (.list ds) := by
  obtain ⟨p, xs, rfl, e, r, _⟩ := h
  exact .lst (SqL.of e) (RpL.dp ds r)
theorem ok_eqL0 {ds : List PyData} (h : ∀ d ∈ ds, d.canLay0 = true ∧ d.depth ≤ 20) (hu : X.A.units + 64 < cLine) : OpK M (compareOp .Eq) X (kL M ds) (kL M []) (kB (decide (ds = []))) := ⟨_, op_eqD hu, fun H x y Q a b q => by
  refine ⟨.list ds, .list [], kl_dp a, kl_dp b, (shp_list h).1, (shp_list (ds := []) (fun d hd => by simp at hd)).1, ?_⟩
  rw [(eqv_nil ds).1]
  exact q _ H (Xt.refl H) kB_of⟩
theorem ok_neL0 {ds : List PyData} (h : ∀ d ∈ ds, d.canLay0 = true ∧ d.depth ≤ 20) (hu : X.A.units + 64 < cLine) : OpK M (compareOp .NotEq) X (kL M ds) (kL M []) (kB (!decide (ds = []))) := ⟨_, op_neD hu, fun H x y Q a b q => by
  refine ⟨.list ds, .list [], kl_dp a, kl_dp b, (shp_list h).1, (shp_list (ds := []) (fun d hd => by simp at hd)).1, ?_⟩
  rw [(eqv_nil ds).1]
  exact q _ H (Xt.refl H) kB_of⟩
theorem ok_neT0 {ds : List PyData} (h : ∀ d ∈ ds, d.canLay0 = true ∧ d.depth ≤ 20) (hu : X.A.units + 64 < cLine) : OpK M (compareOp .NotEq) X (kD (.tuple ds)) (kD (.tuple [])) (kB (!decide (ds = []))) := ⟨_, op_neD hu, fun H x y Q a b q => by
  refine ⟨.tuple ds, .tuple [], Rp.dp _ a, Rp.dp _ b, (shp_list h).2, (shp_list (ds := []) (fun d hd => by simp at hd)).2, ?_⟩
  rw [(eqv_nil ds).2]
  exact q _ H (Xt.refl H) kB_of⟩
/-! ### < of alike data -/
theorem ok_ltD {d e : PyData} (h : alike d e = true) (hn : d ≠ .none) (hd : d.depth ≤ 20) (hu : X.A.units + 40 < cLine) : OpK M (compareOp .Lt) X (kD d) (kD e) (kB (dataLt d e)) :=
  ⟨fun x y H Q => Rp H x d ∧ Rp H y e ∧ Q (.bl (dataLt d e)) H, by
    intro pins s σ H x y v u Q I rx ry h'
    obtain ⟨hx, hy, q⟩ := h'
    obtain ⟨as, r1⟩ := Dp.reads I d x v (Rp.dp d hx) rx
    obtain ⟨bs, r2⟩ := Dp.reads I e y u (Rp.dp e hy) ry
    refine PySem.W.lt_data r1 r2 h hn ?_ ⟨.bl _, H, I, rfl, q⟩
    have := Nat.min_le_left d.depth e.depth
    omega,
  fun H x y Q a b q => ⟨a, b, q _ H (Xt.refl H) kB_of⟩⟩
/-! ### list(range(n)) -/
theorem j_listRange {a : Expr} {p p2 pos pos2 : Pos} {n : Nat} (hc : X.calm = true) (hg : Gl X "list") (hm : X.mg "list" = none) (hg2 : Gl X "range") (hm2 : X.mg "range" = none) (h : JK M X a σ H (kI (n : Int))) (hn : n ≤ 1000000)
    (na2 : starEach [a] X.env = (false, eval a X.env) :: starEach [] X.env := by rfl)
    (na : starEach [.Call (.Name "range" p2) [a] [] pos2] X.env = (false, eval (.Call (.Name "range" p2) [a] [] pos2) X.env) :: starEach [] X.env := by rfl) : JL M X (.Call (.Name "list" p) [.Call (.Name "range" p2) [a] [] pos2] [] pos) σ H (rangeD n) := fun H1 x Q q =>
  we_of (pe_listRg hc hg hm (prg_1 hg2 hm2 pe_we na2) na) (h H1 x _ fun v H2 y k => ⟨(n : Int), kI_eq k, RgOk.of_le (by omega) (by omega) (by omega) (by omega), fun p' hp => by
    have e : rgV 0 (n : Int) = (List.range n).map fun (i : Nat) => V.int (i : Int) := by
      unfold rgV
      have e1 : ((n : Int) - 0).toNat = n := by omega
      rw [e1]
      refine List.map_congr_left fun i _ => ?_
      rw [Int.zero_add]
    rw [e]
    refine q p' _ _ (y.free p' hp) (y.trans (Xt.new hp)) upd_same ?_
    unfold rangeD
    have := RpL.of_ints (H := upd H2 p' (.lst ((List.range n).map fun (i : Nat) => V.int (i : Int)))) ((List.range n).map fun (i : Nat) => (i : Int))
    rw [List.map_map, List.map_map] at this
    exact this⟩)
end
end K68

set_option Elab.async false
set_option linter.all false
set_option maxRecDepth 100000
set_option maxHeartbeats 4000000
/-! K68, text A6e: dicts. -/
namespace K68
open PySem PySem.Spec L2
open PyProof.Rows hiding St
section
variable {M : Md} {X : Cx} {K : Kn} {σ : L2.St} {H : Hp} {e i o a : Expr} {pos pos' tpos : Pos} {rest : List Stmt} {D : Ends} {st : Stmt}
theorem dget_rd {kvs : List (Key × V)} {p : Addr} {c : Int} (h : Rd H p (.dK kvs)) : DGet H p (.int c) (valV kvs (Sum.inl c)) := .inl ⟨kvs, Sum.inl c, h, rfl, rfl⟩
/-- d[k] -/
theorem j_dget {kvs : List (Key × V)} {c : Int} {v : V} (hu : X.A.units + 1 < cLine) (ho : JK M X o σ H (kK M kvs)) (hi : JK M X i σ H (kI c)) (hv : valV kvs (Sum.inl c) = some v) (hk : ∀ H1, Xt M H H1 → K H1 v) (hs : NoSl i := by intro _ _; rfl) : JK M X (.Subscript o i pos) σ H K := fun H1 x Q q =>
  we_of (pe_dget hu pe_we pe_we hs) (ho H1 x _ fun w H2 y k => hi H2 (x.trans y) _ fun u H3 z k' => by
    obtain ⟨p, rfl, r, hm⟩ := Mn.mono (M := M) (K := kK M kvs) z k
    rw [kI_eq k']
    refine ⟨p, v, rfl, ?_, q v H3 (y.trans z) (hk H3 ((x.trans y).trans z))⟩
    rw [← hv]
    exact dget_rd r)
/-- dict(d) -/
theorem j_dictOf {kvs : List (Key × V)} {p : Pos} (hg : Gl X "dict") (hm : X.mg "dict" = none) (h : JK M X a σ H (kK M kvs)) (hb : bootBuiltins "dict" = some (.type "dict") := by rfl)
    (he : starEach [a] X.env = (false, eval a X.env) :: starEach [] X.env := by rfl) : JDK M X (.Call (.Name "dict" p) [a] [] pos) σ H kvs := fun H1 x Q q =>
  we_of (pe_callTy call_dictD hg hm hb pa_wa (by decide) (by decide) he (by rfl)) (ja_cons h ja_nil he H1 x _ fun vs H2 y k => by
    obtain ⟨v, rfl, kv⟩ := k1 k
    obtain ⟨p, rfl, r, _⟩ := kv
    exact ⟨p, kvs, rfl, r, fun p' hp => q p' _ (y.free p' hp) (y.trans (Xt.new hp)) upd_same⟩)
/-- x[k] = v on a dict of the def's own -/
theorem s_dput (j : Nat) [Mn M K] {x : Str} {p1 : Pos} {l : Addr} {kvs : List (Key × V)} {c : Int} (hu : X.A.units + 1 < cLine) (hs : σ[j]? = some (some (.ref l))) (hl : H l = some (.dK kvs)) (hv : JK M X e σ H K) (hi : JK M X i σ H (kI c)) (hz : kvs.length < 1000000) (hm : ¬ M.m l := by first | exact id | assumption)
    (k : ∀ v H1, Xt M H H1 → K H1 v → H1 l = some (.dK kvs) → WSs X rest D σ (upd H1 l (.dK (putK kvs (Sum.inl c) v))))
    (hN : X.N[j]? = some x := by rfl) (hvis : Vis X.env.scope x := by first | exact Or.inl rfl | exact Or.inr (Or.inl rfl) | exact Or.inr (Or.inr rfl)) (hd : (x == ("__debug__" : Str)) = false := by decide) (hcd : (x == ("__classdict__" : Str)) = false := by decide)
    (hsw : swapsWith e (some (.Subscript (.Name x p1) i pos')) pos.line X.env = pure false := by rfl) : WSs X (.Assign [.Subscript (.Name x p1) i pos'] e pos :: rest) D σ H :=
  s_cons (ws_of (ps_dput hu (pe_var hN hvis hd hcd) pe_we pe_we hsw) (hv H (Xt.refl H) _ fun v H1 y kv => ⟨.ref l, hs, hi H1 y _ fun u H2 z kc => by
    rw [kI_eq kc]
    have hl2 := z.keep _ _ (y.keep _ _ hl (nt_dK _) hm) (nt_dK _) hm
    exact ⟨l, _, rfl, .inl ⟨kvs, Sum.inl c, hl2, rfl, Nat.lt_of_lt_of_le hz (by decide), rfl⟩, k v H2 (y.trans z) (Mn.mono z kv) hl2⟩⟩))
/-- del x[k] -/
theorem s_ddel (j : Nat) {x : Str} {p1 : Pos} {l : Addr} {kvs : List (Key × V)} {c : Int} (hs : σ[j]? = some (some (.ref l))) (hl : H l = some (.dK kvs)) (hi : JK M X i σ H (kI c)) (hc : hasK kvs c = true) (hm : ¬ M.m l := by first | exact id | assumption)
    (k : ∀ H1, Xt M H H1 → H1 l = some (.dK kvs) → WSs X rest D σ (upd H1 l (.dK (dropK kvs (Sum.inl c)))))
    (hN : X.N[j]? = some x := by rfl) (hvis : Vis X.env.scope x := by first | exact Or.inl rfl | exact Or.inr (Or.inl rfl) | exact Or.inr (Or.inr rfl)) (hd : (x == ("__debug__" : Str)) = false := by decide) (hcd : (x == ("__classdict__" : Str)) = false := by decide) :
    WSs X (.Delete [.Subscript (.Name x p1) i tpos] pos :: rest) D σ H :=
  s_cons (ws_of (ps_ddel (pe_var hN hvis hd hcd) pe_we) ⟨.ref l, hs, hi H (Xt.refl H) _ fun u H2 z kc => by
    rw [kI_eq kc]
    have hl2 := z.keep _ _ hl (nt_dK _) hm
    exact ⟨l, kvs, Sum.inl c, rfl, hl2, rfl, hc, k H2 z hl2⟩⟩)
/-- while it is walked, a dict is known -/
theorem s_lock {d : Addr} {kvs : List (Key × V)} (hd : H d = some (.dK kvs)) (h : ∀ od, WS X st ⟨fun σ' H' => H' d = some (.frz od (.dK kvs)) ∧ D.nx σ' (upd H' d (.dK kvs)), fun v H' => H' d = some (.frz od (.dK kvs)) ∧ D.rt v (upd H' d (.dK kvs)), fun σ' H' => H' d = some (.frz od (.dK kvs)) ∧ D.bk σ' (upd H' d (.dK kvs)), fun σ' H' => H' d = some (.frz od (.dK kvs)) ∧ D.ct σ' (upd H' d (.dK kvs))⟩ σ (upd H d (.frz od (.dK kvs)))) : WS X st D σ H :=
  ws_of (ps_lock ps_ws) ⟨d, _, hd, trivial, h⟩
def keysD (kvs : List (Key × V)) (ks : List Int) : Prop := kvs.map (·.1) = ks.map Sum.inl
theorem ji_keys {tg : Expr} {d : Addr} {od : Obj} {kvs : List (Key × V)} {ks : List Int} (h : JK M X e σ H (kE (.ref d))) (hd : H d = some (.frz od (.dK kvs))) (hk : keysD kvs ks) (hm : ¬ M.m d := by first | exact id | assumption) : JIx M X tg e σ H (ks.map .int) := fun H0 x R q =>
  wi_of (pi_keys pe_we) (h H0 x _ fun v H1 y k => by
    have k : v = .ref d := k
    have hd1 := y.keep _ _ (x.keep _ _ hd (nt_frz _ _) hm) (nt_frz _ _) hm
    have hl : kvs.length = ks.length := by
      have := congrArg List.length hk
      rw [List.length_map, List.length_map] at this
      exact this
    refine ⟨d, od, k, .inl ⟨kvs, hd1, q _ (fun H => H d = some (.frz od (.dK kvs))) H1 y ⟨fun i H h hi => ?_, fun H h => ?_, fun i H x H' h hi y => ?_, fun H H' x h => x.keep _ _ h (nt_frz _ _) hm⟩ hd1⟩⟩
    · rw [List.length_map] at hi
      exact ⟨h, by omega⟩
    · rw [List.length_map]
      exact ⟨h, by omega⟩
    · obtain ⟨rfl, k', v', e1, rfl⟩ := y
      have e2 : (kvs.map (·.1))[i]? = some k' := by rw [List.getElem?_map, e1]; rfl
      rw [hk, List.getElem?_map] at e2
      cases e3 : ks[i]? with
      | none => rw [e3] at e2; cases e2
      | some c =>
        rw [e3] at e2
        cases e2
        exact ⟨rfl, .int c, by rw [List.getElem?_map, e3]; rfl, Rp.int c⟩)
/-- if d: -/
theorem jt_dict {kvs : List (Key × V)} {b : Bool} (h : JK M X e σ H (fun H v => ∃ p, v = .ref p ∧ H p = some (.dK kvs))) (hb : b = !kvs.isEmpty) (he : ∀ whole, isTrue e X.env whole = (do let v ← whole; standAt e.pos; holding [v] (truthy v)) := by intro _; rfl) : JT M X e σ H b := fun H1 x Q q =>
  wt_of (pt_truth pe_we he) (h H1 x _ fun v H2 y k => by
    obtain ⟨p, rfl, r⟩ := k
    exact ⟨_, .inr (.inr ⟨kvs, r, rfl⟩), by rw [← hb]; exact q H2 y⟩)
end
end K68

set_option Elab.async false
set_option linter.all false
set_option maxRecDepth 100000
/-! K68, text D0: fabrics, ways and pairs as data; what the defs compute, in plain Lean. -/
namespace K68
open PySem PySem.Spec L2 PySem.W
open PyProof.Rows hiding St
/-! ### data -/
def dI (n : Nat) : PyData := .int (n : Int)
def dNs (l : List Nat) : PyData := .tuple (l.map dI)
structure Ch where
  u : Nat
  v : Nat
  r : Nat
structure Fab where
  n : Nat
  ch : List Ch
  tb : List (List (List Nat))
def dCh (c : Ch) : PyData := .tuple [dI c.u, dI c.v, dI c.r]
def Fab.dNet (F : Fab) : PyData := .tuple [dI F.n, .tuple (F.ch.map dCh)]
def dRow (row : List (List Nat)) : PyData := .tuple (row.map dNs)
def Fab.dTb (F : Fab) : PyData := .tuple (F.tb.map dRow)
def Fab.d (F : Fab) : PyData := .tuple [F.dNet, F.dTb]
abbrev Pr := Nat × List Nat
def dPr (p : Pr) : PyData := .tuple [dI p.1, dNs p.2]
def dPrs (ps : List Pr) : PyData := .tuple (ps.map dPr)
def castI (l : List Nat) : List Int := l.map fun (n : Nat) => (n : Int)
theorem map_dI (l : List Nat) : l.map dI = (castI l).map .int := by unfold castI dI; rw [List.map_map]; rfl
theorem mem_castI {c : Nat} {l : List Nat} : (c : Int) ∈ castI l ↔ c ∈ l := by
  unfold castI
  rw [List.mem_map]
  refine ⟨fun ⟨a, h, e⟩ => ?_, fun h => ⟨c, h, rfl⟩⟩
  have e2 : a = c := by omega
  rw [← e2]
  exact h
theorem dec_castI {c : Nat} {l : List Nat} : decide ((c : Int) ∈ castI l) = decide (c ∈ l) := decide_eq_decide.mpr mem_castI
theorem castI_len (l : List Nat) : (castI l).length = l.length := List.length_map _
theorem castI_nodup {l : List Nat} : (castI l).Nodup ↔ l.Nodup := by
  unfold castI List.Nodup
  rw [List.pairwise_map]
  exact ⟨fun h => h.imp fun h e => h (by rw [e]), fun h => h.imp fun h e => h (by omega)⟩
/-! ### fabrics -/
def Fab.m (F : Fab) : Nat := F.ch.length
def Fab.C (F : Fab) (c : Nat) : Ch := F.ch.getD c ⟨0, 0, 0⟩
def Fab.op (F : Fab) (u d : Nat) : List Nat := (F.tb.getD u []).getD d []
structure Fab.Ok (F : Fab) : Prop where
  n1 : 1 ≤ F.n
  n4 : F.n ≤ 4
  m6 : F.m ≤ 6
  ch : ∀ x ∈ F.ch, x.u < F.n ∧ x.v < F.n ∧ 1 ≤ x.r ∧ x.r ≤ 1000
  tl : F.tb.length = F.n
  rl : ∀ row ∈ F.tb, row.length = F.n
  op : ∀ u d c, c ∈ F.op u d → c < F.m ∧ (F.C c).u = u
  nd : ∀ u d, (F.op u d).Nodup
/-! ### ways -/
def Fab.ll (F : Fab) (w : List Nat) : Nat := 1 + ((w.drop 1).map fun c => (F.C c).r).sum
def Fab.wo (F : Fab) (d : Nat) (w : List Nat) : List Nat := F.op (F.C (w.getLastD 0)).v d
/-- ways longer behind by one channel -/
def Fab.kB (F : Fab) (out : List Nat) (d : Nat) (w : List Nat) : List (List Nat) := ((F.wo d w).filter fun c => decide (c ∉ w) && decide (c ∉ out)).map fun c => w ++ [c]
/-- all of them, as the walk meets them -/
def Fab.tB (F : Fab) (L : Nat) (out : List Nat) (d : Nat) : Nat → List Nat → List (List Nat)
  | 0, _ => []
  | k + 1, w => if F.ll w ≤ L then w :: (F.kB out d w).reverse.flatMap (F.tB L out d k) else []
def Fab.lB (F : Fab) (L : Nat) (out : List Nat) (d : Nat) (w : List Nat) : List (List Nat) := F.tB L out d (F.m + 1 - w.length) w
/-- c may stand ahead of w -/
def Fab.okA (F : Fab) (out : List Nat) (d : Nat) (w : List Nat) (c : Nat) : Bool := decide ((F.C c).v = (F.C (w.headD 0)).u) && decide (c ∉ w) && decide (c ∉ out) && decide (c ∈ F.op (F.C c).u d)
def Fab.kA (F : Fab) (out : List Nat) (d : Nat) (w : List Nat) : List (List Nat) := ((List.range F.m).filter (F.okA out d w)).map fun c => c :: w
def Fab.tA (F : Fab) (L : Nat) (out : List Nat) (d : Nat) : Nat → List Nat → List (List Nat)
  | 0, _ => []
  | k + 1, w => if F.ll w ≤ L then w :: (F.kA out d w).reverse.flatMap (F.tA L out d k) else []
def Fab.lA (F : Fab) (L : Nat) (out : List Nat) (d : Nat) (w : List Nat) : List (List Nat) := F.tA L out d (F.m + 1 - w.length) w
def Fab.wt (F : Fab) (L : Nat) (out : List Nat) (d c : Nat) : List (List Nat) :=
  if c ∈ F.op (F.C c).u d then (F.lB L out d [c]).flatMap fun w => if (F.C (w.getLastD 0)).v ≠ d then F.lA L out d w else [] else []
def heldL (chosen : List Pr) : List Nat := chosen.flatMap (·.2)
def sortP (ps : List Pr) : List Pr := ps.mergeSort (dataLe false dPr)
def Fab.cand0 (F : Fab) (L : Nat) (chosen : List Pr) (barred : List Nat) (c : Nat) : List Pr :=
  (List.range F.n).flatMap fun d => ((F.wt L (barred ++ heldL chosen) d c).filter fun w => !(F.wo d w).any fun x => decide (x ∈ barred)).map fun w => (d, w)
def Fab.cand (F : Fab) (L : Nat) (chosen : List Pr) (barred : List Nat) (c : Nat) : List Pr :=
  if c ∈ barred ++ heldL chosen then [] else sortP (F.cand0 L chosen barred c)
end K68

set_option Elab.async false
set_option linter.all false
set_option maxRecDepth 100000
set_option maxHeartbeats 1000000
/-! K68, text B0: the defs of the text, promises. -/
namespace K68
open PySem PySem.Spec L2
open PyProof.Rows hiding St
def topS (i : Nat) : Stmt := PySem.Challenge.pw_calmfabric_k68_whole_lengths_of_worms.main.body.getD i (.Pass ⟨0, 0, 0, 0⟩)
/-- the names of built-ins are no globals of the module -/
structure Blt (mg : Str → Option Value) : Prop where
  len : mg "len" = none
  isi : mg "isinstance" = none
  int : mg "int" = none
  bool : mg "bool" = none
  tuple : mg "tuple" = none
  range : mg "range" = none
  all : mg "all" = none
  any : mg "any" = none
  set : mg "set" = none
  sum : mg "sum" = none
  sorted : mg "sorted" = none
  list : mg "list" = none
  min : mg "min" = none
  max : mg "max" = none
  dict : mg "dict" = none
/-- a def whose code object stands at c -/
structure FunT (K : PySem.W.Frag) (x qual : Str) (st : Stmt) (f : Addr) (fd : FuncData) (c : Addr) : Prop where
  ex : ∃ (oc : Value) (od : Option Addr) (kV doc pm : Value) (an : Option Addr) (ct : Value) (osl : Array (Option Value)),
    fd = PySem.W.fnOf x qual (defArgs st) (defBody st) (defScope st) .none kV doc pm an (.ref c) ct ∧ K.lookup f = some ⟨oc, od, .func fd, osl⟩ ∧ PySem.W.codeIn K (.ref c) qual = true
  kp : PySem.W.keepIn K (.ref f) = true
/-- a def's context -/
abbrev DX (P : Program) (w : World) (K : PySem.W.Frag) (mg : Str → Option Value) (base : Heap) (N : List Str) (x : Str) (st : Stmt) (f : Addr) (cdv : Value) (A : Around) (outer : List Env) (s : Shared) (H : Hp) (E : XK) : Cx := (cxOf CX0 P w K mg base N x (defScope st) f cdv A outer s H E).nox
/-- promises: for each i with what it asks, such arguments give such a value; tbs: the tables that may grow -/
def spK (tbs : List Addr) {ι : Type} (pre : ι → Prop) (Ks : ι → List Kn) (Kr : ι → Kn) : Sp := fun vs H Q _ => ∃ i, pre i ∧ (∀ P ∈ tbs, GxR.TabG H P) ∧ KAll (Ks i) H vs ∧ RetK M0 (Kr i) H Q
def spL (tbs : List Addr) {ι : Type} (pre : ι → Prop) (Ks : ι → List Kn) (ds : ι → List PyData) : Sp := fun vs H Q _ => ∃ i, pre i ∧ (∀ P ∈ tbs, GxR.TabG H P) ∧ KAll (Ks i) H vs ∧ RetL M0 (ds i) H Q
theorem kall_len : ∀ {Ks : List Kn} {H : Hp} {vs : List V}, KAll Ks H vs → vs.length = Ks.length
  | [], H, vs, h => by
    have h : vs = [] := h
    rw [h]; rfl
  | K :: Ks, H, vs, h => by
    obtain ⟨v, r, rfl, _, h⟩ := h
    rw [List.length_cons, List.length_cons, kall_len h]
section
variable {P : Program} {w : World} {K : PySem.W.Frag} {mg : Str → Option Value} {base : Heap} {x : Str} {st : Stmt} {f : Addr} {fd : FuncData} {N ps : List Str} {k : Nat} {tbs : List Addr} {ι : Type} {pre : ι → Prop} {Ks : ι → List Kn} {Kr : ι → Kn} {ds : ι → List PyData} {c : Addr}
theorem fn_sp {sp : Sp} (F : Fun K x x st f fd) (hm : mg x = some (.ref f)) (S : FnScope N ps (defScope st)) (len : ∀ vs H Q E, sp vs H Q E → vs.length = ps.length)
    (hb : ∀ (kV doc pm : Value) (an : Option Addr) (cdv ct : Value) (us : List Value), us.length = ps.length → bindArgs (PySem.W.fnOf x x (defArgs st) (defBody st) (defScope st) .none kV doc pm an cdv ct) ⟨us, []⟩ = pure (ps.zip us))
    (body : ∀ (cdv : Value) (A : Around) (outer : List Env) (s : Shared) (H : Hp) (vs : List V) (Q : VK) (E : XK), Room k (DX P w K mg base N x st f cdv A outer s H E).A → sp vs H Q E →
      WSs (DX P w K mg base N x st f cdv A outer s H E) (defBody st) { nx := fun _ H' => Q .non H', rt := Q } (start N vs) H) : FnK P w K mg base x ps (k + 1) sp :=
  ⟨f, fd, hm, F.ok S len fun cdv A outer s H vs Q E hr hsp => ⟨_, pss_wss, body cdv A outer s H vs Q E hr hsp⟩, F.kp, F.binds hb⟩
theorem fn_spT {sp : Sp} (F : FunT K x x st f fd c) (hm : mg x = some (.ref f)) (S : FnScope N ps (defScope st)) (len : ∀ vs H Q E, sp vs H Q E → vs.length = ps.length)
    (hb : ∀ (kV doc pm : Value) (an : Option Addr) (cdv ct : Value) (us : List Value), us.length = ps.length → bindArgs (PySem.W.fnOf x x (defArgs st) (defBody st) (defScope st) .none kV doc pm an cdv ct) ⟨us, []⟩ = pure (ps.zip us))
    (body : ∀ (A : Around) (outer : List Env) (s : Shared) (H : Hp) (vs : List V) (Q : VK) (E : XK), Room k (DX P w K mg base N x st f (.ref c) A outer s H E).A → sp vs H Q E →
      WSs (DX P w K mg base N x st f (.ref c) A outer s H E) (defBody st) { nx := fun _ H' => Q .non H', rt := Q } (start N vs) H) : FnK P w K mg base x ps (k + 1) sp := by
  obtain ⟨oc, od, kV, doc, pm, an, ct, osl, rfl, lk, hcd⟩ := F.ex
  refine ⟨f, _, hm, fn_of lk hcd S len fun A outer s H vs Q E hr hsp => ⟨_, (PSs.nox pss_wss), body A outer s H vs Q E hr hsp⟩, F.kp, .all (hb kV doc pm an (.ref c) ct)⟩
theorem fn_k (F : Fun K x x st f fd) (hm : mg x = some (.ref f)) (S : FnScope N ps (defScope st)) (len : ∀ i, (Ks i).length = ps.length)
    (hb : ∀ (kV doc pm : Value) (an : Option Addr) (cdv ct : Value) (us : List Value), us.length = ps.length → bindArgs (PySem.W.fnOf x x (defArgs st) (defBody st) (defScope st) .none kV doc pm an cdv ct) ⟨us, []⟩ = pure (ps.zip us))
    (body : ∀ (cdv : Value) (A : Around) (outer : List Env) (s : Shared) (H : Hp) (vs : List V) (Q : VK) (E : XK) (i : ι), Room k (DX P w K mg base N x st f cdv A outer s H E).A → pre i → (∀ P ∈ tbs, GxR.TabG H P) → KAll (Ks i) H vs → RetK M0 (Kr i) H Q →
      WSs (DX P w K mg base N x st f cdv A outer s H E) (defBody st) { nx := fun _ H' => Q .non H', rt := Q } (start N vs) H) : FnK P w K mg base x ps (k + 1) (spK tbs pre Ks Kr) :=
  fn_sp F hm S (fun vs H Q E ⟨i, _, _, h, _⟩ => (kall_len h).trans (len i)) hb fun cdv A outer s H vs Q E hr ⟨i, h1, h2, h3, h4⟩ => body cdv A outer s H vs Q E i hr h1 h2 h3 h4
theorem fn_l (F : Fun K x x st f fd) (hm : mg x = some (.ref f)) (S : FnScope N ps (defScope st)) (len : ∀ i, (Ks i).length = ps.length)
    (hb : ∀ (kV doc pm : Value) (an : Option Addr) (cdv ct : Value) (us : List Value), us.length = ps.length → bindArgs (PySem.W.fnOf x x (defArgs st) (defBody st) (defScope st) .none kV doc pm an cdv ct) ⟨us, []⟩ = pure (ps.zip us))
    (body : ∀ (cdv : Value) (A : Around) (outer : List Env) (s : Shared) (H : Hp) (vs : List V) (Q : VK) (E : XK) (i : ι), Room k (DX P w K mg base N x st f cdv A outer s H E).A → pre i → (∀ P ∈ tbs, GxR.TabG H P) → KAll (Ks i) H vs → RetL M0 (ds i) H Q →
      WSs (DX P w K mg base N x st f cdv A outer s H E) (defBody st) { nx := fun _ H' => Q .non H', rt := Q } (start N vs) H) : FnK P w K mg base x ps (k + 1) (spL tbs pre Ks ds) :=
  fn_sp F hm S (fun vs H Q E ⟨i, _, _, h, _⟩ => (kall_len h).trans (len i)) hb fun cdv A outer s H vs Q E hr ⟨i, h1, h2, h3, h4⟩ => body cdv A outer s H vs Q E i hr h1 h2 h3 h4
theorem fn_kT (F : FunT K x x st f fd c) (hm : mg x = some (.ref f)) (S : FnScope N ps (defScope st)) (len : ∀ i, (Ks i).length = ps.length)
    (hb : ∀ (kV doc pm : Value) (an : Option Addr) (cdv ct : Value) (us : List Value), us.length = ps.length → bindArgs (PySem.W.fnOf x x (defArgs st) (defBody st) (defScope st) .none kV doc pm an cdv ct) ⟨us, []⟩ = pure (ps.zip us))
    (body : ∀ (A : Around) (outer : List Env) (s : Shared) (H : Hp) (vs : List V) (Q : VK) (E : XK) (i : ι), Room k (DX P w K mg base N x st f (.ref c) A outer s H E).A → pre i → (∀ P ∈ tbs, GxR.TabG H P) → KAll (Ks i) H vs → RetK M0 (Kr i) H Q →
      WSs (DX P w K mg base N x st f (.ref c) A outer s H E) (defBody st) { nx := fun _ H' => Q .non H', rt := Q } (start N vs) H) : FnK P w K mg base x ps (k + 1) (spK tbs pre Ks Kr) :=
  fn_spT F hm S (fun vs H Q E ⟨i, _, _, h, _⟩ => (kall_len h).trans (len i)) hb fun A outer s H vs Q E hr ⟨i, h1, h2, h3, h4⟩ => body A outer s H vs Q E i hr h1 h2 h3 h4
theorem fn_lT (F : FunT K x x st f fd c) (hm : mg x = some (.ref f)) (S : FnScope N ps (defScope st)) (len : ∀ i, (Ks i).length = ps.length)
    (hb : ∀ (kV doc pm : Value) (an : Option Addr) (cdv ct : Value) (us : List Value), us.length = ps.length → bindArgs (PySem.W.fnOf x x (defArgs st) (defBody st) (defScope st) .none kV doc pm an cdv ct) ⟨us, []⟩ = pure (ps.zip us))
    (body : ∀ (A : Around) (outer : List Env) (s : Shared) (H : Hp) (vs : List V) (Q : VK) (E : XK) (i : ι), Room k (DX P w K mg base N x st f (.ref c) A outer s H E).A → pre i → (∀ P ∈ tbs, GxR.TabG H P) → KAll (Ks i) H vs → RetL M0 (ds i) H Q →
      WSs (DX P w K mg base N x st f (.ref c) A outer s H E) (defBody st) { nx := fun _ H' => Q .non H', rt := Q } (start N vs) H) : FnK P w K mg base x ps (k + 1) (spL tbs pre Ks ds) :=
  fn_spT F hm S (fun vs H Q E ⟨i, _, _, h, _⟩ => (kall_len h).trans (len i)) hb fun A outer s H vs Q E hr ⟨i, h1, h2, h3, h4⟩ => body A outer s H vs Q E i hr h1 h2 h3 h4
end
section
variable {M : Md} {X : Cx} {e : Expr} {es : List Expr} {σ : L2.St} {H : Hp} {x : Str} {ps : List Str} {k : Nat} {tbs : List Addr} {ι : Type} {pre : ι → Prop} {Ks : ι → List Kn} {Kr : ι → Kn} {ds : ι → List PyData} {p pos : Pos}
theorem tabs_up {H' : Hp} (x : Xt M H H') (h : ∀ P ∈ tbs, GxR.TabG H P) : ∀ P ∈ tbs, GxR.TabG H' P := fun P m => x.tab P (h P m)
theorem no_tabs : ∀ P ∈ ([] : List Addr), GxR.TabG H P := fun P h => by cases h
/-- a def called -/
theorem j_def (i : ι) (F : FnK X.prog X.w X.K X.mg X.base x ps k (spK tbs pre Ks Kr)) (hr : Room k X.A) (hp : pre i) (ht : ∀ P ∈ tbs, GxR.TabG H P) (ha : JA M X (e :: es) σ H (Ks i)) {Kz : Kn} (hK : Kr i = Kz := by rfl) (hg : Gl X x := by rfl)
    (hdb : (x == ("__debug__" : Str)) = false := by decide) (he : starEach (e :: es) X.env = (false, eval e X.env) :: starEach es X.env := by rfl) (hpl : (backTo pos (starEach es X.env)).any (·.1) = false := by rfl) : JK M X (.Call (.Name x p) (e :: es) [] pos) σ H Kz :=
  hK ▸ j_call F hr hg ha (fun vs H2 Q y k q => ⟨i, hp, tabs_up y ht, k, q.pure⟩) hdb he hpl
theorem j_defL (i : ι) (F : FnK X.prog X.w X.K X.mg X.base x ps k (spL tbs pre Ks ds)) (hr : Room k X.A) (hp : pre i) (ht : ∀ P ∈ tbs, GxR.TabG H P) (ha : JA M X (e :: es) σ H (Ks i)) {dz : List PyData} (hK : ds i = dz := by rfl) (hg : Gl X x := by rfl)
    (hdb : (x == ("__debug__" : Str)) = false := by decide) (he : starEach (e :: es) X.env = (false, eval e X.env) :: starEach es X.env := by rfl) (hpl : (backTo pos (starEach es X.env)).any (·.1) = false := by rfl) : JL M X (.Call (.Name x p) (e :: es) [] pos) σ H dz :=
  hK ▸ j_callL F hr hg ha (fun vs H2 Q y k q => ⟨i, hp, tabs_up y ht, k, q.pure⟩) hdb he hpl
theorem k3 {K1 K2 K3 : Kn} {vs : List V} (h : KAll [K1, K2, K3] H vs) : ∃ a b c, vs = [a, b, c] ∧ K1 H a ∧ K2 H b ∧ K3 H c := by
  obtain ⟨v, r, rfl, k, h⟩ := h
  obtain ⟨a, b, rfl, k2, k3⟩ := k2 h
  exact ⟨v, a, b, rfl, k, k2, k3⟩
theorem k4 {K1 K2 K3 K4 : Kn} {vs : List V} (h : KAll [K1, K2, K3, K4] H vs) : ∃ a b c d, vs = [a, b, c, d] ∧ K1 H a ∧ K2 H b ∧ K3 H c ∧ K4 H d := by
  obtain ⟨v, r, rfl, k, h⟩ := h
  obtain ⟨a, b, c, rfl, q⟩ := k3 h
  exact ⟨v, a, b, c, rfl, k, q⟩
theorem k5 {K1 K2 K3 K4 K5 : Kn} {vs : List V} (h : KAll [K1, K2, K3, K4, K5] H vs) : ∃ a b c d e, vs = [a, b, c, d, e] ∧ K1 H a ∧ K2 H b ∧ K3 H c ∧ K4 H d ∧ K5 H e := by
  obtain ⟨v, r, rfl, k, h⟩ := h
  obtain ⟨a, b, c, d, rfl, q⟩ := k4 h
  exact ⟨v, a, b, c, d, rfl, k, q⟩
end
end K68

set_option Elab.async false
set_option linter.all false
set_option maxRecDepth 100000
set_option maxHeartbeats 1000000
/-! K68, text B1: short words for calls of built-ins; is_whole, way_options, least_length. -/
namespace K68
open PySem PySem.Spec L2
open PyProof.Rows hiding St
theorem bt_len : bootBuiltins "len" = some (.builtin "len") := by decide +kernel
theorem bt_isinstance : bootBuiltins "isinstance" = some (.builtin "isinstance") := by decide +kernel
theorem bt_sum : bootBuiltins "sum" = some (.builtin "sum") := by decide +kernel
theorem bt_sorted : bootBuiltins "sorted" = some (.builtin "sorted") := by decide +kernel
theorem bt_any : bootBuiltins "any" = some (.builtin "any") := by decide +kernel
theorem bt_all : bootBuiltins "all" = some (.builtin "all") := by decide +kernel
theorem bt_min : bootBuiltins "min" = some (.builtin "min") := by decide +kernel
theorem bt_max : bootBuiltins "max" = some (.builtin "max") := by decide +kernel
theorem bt_int : bootBuiltins "int" = some (.type "int") := by decide +kernel
theorem bt_bool : bootBuiltins "bool" = some (.type "bool") := by decide +kernel
theorem bt_tuple : bootBuiltins "tuple" = some (.type "tuple") := by decide +kernel
theorem bt_list : bootBuiltins "list" = some (.type "list") := by decide +kernel
theorem bt_set : bootBuiltins "set" = some (.type "set") := by decide +kernel
theorem bt_dict : bootBuiltins "dict" = some (.type "dict") := by decide +kernel
theorem bt_range : bootBuiltins "range" = some (.type "range") := by decide +kernel
section
variable {M : Md} {X : Cx} {K : Kn} {a b : Expr} {es : List Expr} {σ : L2.St} {H : Hp} {p p2 pos pos2 : Pos} {ds : List PyData} {d : PyData}
theorem j_lenT (B : Blt X.mg) (h : JK M X a σ H (kD (.tuple ds))) (hg : Gl X "len" := by rfl) (hs : starEach [a] X.env = (false, eval a X.env) :: starEach [] X.env := by rfl) : JK M X (.Call (.Name "len" p) [a] [] pos) σ H (kI (ds.length : Int)) :=
  j_callB ck_lenT hg B.len bt_len (ja_cons h ja_nil hs) (by decide) (by decide) hs rfl
theorem j_lenL (B : Blt X.mg) (h : JK M X a σ H (kL M ds)) (hg : Gl X "len" := by rfl) (hs : starEach [a] X.env = (false, eval a X.env) :: starEach [] X.env := by rfl) : JK M X (.Call (.Name "len" p) [a] [] pos) σ H (kI (ds.length : Int)) :=
  j_callB ck_lenL hg B.len bt_len (ja_cons h ja_nil hs) (by decide) (by decide) hs rfl
theorem j_lenS {n : Nat} (B : Blt X.mg) (h : JK M X a σ H (kSet X.prog X.w n)) [Mn M (kSet X.prog X.w n)] (hg : Gl X "len" := by rfl) (hs : starEach [a] X.env = (false, eval a X.env) :: starEach [] X.env := by rfl) : JK M X (.Call (.Name "len" p) [a] [] pos) σ H (kI (n : Int)) :=
  j_callB ck_lenS hg B.len bt_len (ja_cons h ja_nil hs) (by decide) (by decide) hs rfl
theorem j_isi {n : String} {x : Str} {t : Bool} (B : Blt X.mg) (h : JK M X a σ H (kD d)) (hk : kitB (tyD d) n = some t) (hm : X.mg x = none) (hv : bootBuiltins x = some (.type n)) (hg : Gl X "isinstance" := by rfl) (hg2 : Gl X x := by rfl) (hn : x ≠ "__name__" := by decide) (hd : (x == ("__debug__" : Str)) = false := by decide)
    (hs : starEach [a, .Name x p2] X.env = (false, eval a X.env) :: starEach [.Name x p2] X.env := by rfl) (hs2 : starEach [.Name x p2] X.env = (false, eval (.Name x p2) X.env) :: starEach [] X.env := by rfl) (hpl : (backTo pos (starEach [.Name x p2] X.env)).any (·.1) = false := by rfl) :
    JK M X (.Call (.Name "isinstance" p) [a, .Name x p2] [] pos) σ H (kB t) :=
  j_callB (ck_isi hk) hg B.isi bt_isinstance (ja_cons h (ja_cons (j_bltn hg2 hm hv rfl hn hd) ja_nil hs2) hs) (by decide) (by decide) hs hpl
end
instance {P : Program} {w : World} {n : Nat} : Mn M0 (kSet P w n) := ⟨fun e h => by
  obtain ⟨a, rfl, q⟩ := h
  exact ⟨a, rfl, e.keep _ _ q (fun ps z => by cases z) id⟩⟩
section
variable {P : Program} {w : World} {K : PySem.W.Frag} {mg : Str → Option Value} {base : Heap} {f : Addr} {fd : FuncData}
theorem scWhole : FnScope ["value", "least", "most"] ["value", "least", "most"] (defScope (topS 1)) := ⟨rfl, rfl, rfl, by decide +kernel, rfl, by decide +kernel, by decide +kernel⟩
def spWhole : Sp := spK [] (ι := Int × Int × Int) (fun _ => True) (fun i => [kI i.1, kI i.2.1, kI i.2.2]) (fun i => kB (decide (i.2.1 ≤ i.1) && decide (i.1 ≤ i.2.2)))
theorem fnWhole (B : Blt mg) (F : Fun K "is_whole" "is_whole" (topS 1) f fd) (hm : mg "is_whole" = some (.ref f)) : FnK P w K mg base "is_whole" ["value", "least", "most"] 1 spWhole := by
  refine fn_k F hm scWhole (fun _ => rfl) (fun _ _ _ _ _ _ us hl => match us, hl with | [_, _, _], _ => rfl) fun cdv A outer s H vs Q E i hr _ _ hk hq => ?_
  obtain ⟨v, lo, hi⟩ := i
  obtain ⟨a, b, c, rfl, ha, hb, hc⟩ := k3 hk
  have jv : ∀ {p}, JK M0 (DX P w K mg base ["value", "least", "most"] "is_whole" (topS 1) f cdv A outer s H E) (.Name "value" p) (start ["value", "least", "most"] [a, b, c]) H (kI v) := j_var 0 rfl ha
  refine s_ret (K := kB (decide (lo ≤ v) && decide (v ≤ hi))) ?_ (fun v H1 y k => hq v H1 y k)
  exact j_and (t := true) (j_isi B jv rfl B.int bt_int) fun _ => j_and (t := true) (j_not (t := false) (j_isi B jv rfl B.bool bt_bool)) fun _ => j_one (j_chain ok_le (fun _ => ok_le) (fun _ => ⟨_, op_le⟩) (j_var 1 rfl hb) jv (j_var 2 rfl hc))
end
end K68

set_option Elab.async false
set_option linter.all false
set_option maxRecDepth 100000
set_option maxHeartbeats 1000000
/-! K68, text B2: parts of a fabric; way_options, least_length. -/
namespace K68
open PySem PySem.Spec L2
open PyProof.Rows hiding St
section
variable {M : Md} {X : Cx} {K : Kn} {a b c : Expr} {es : List Expr} {σ : L2.St} {H : Hp} {p p2 pos pos2 : Pos} {ds : List PyData} {d : PyData} {F : Fab}
theorem j_item {i : Int} (hat : atI ds i = some d) (h : JK M X a σ H (kD (.tuple ds))) (hi : JK M X b σ H (kI i)) (hp : PlainIx b := by intro _ _; rfl) : JK M X (.Subscript a b pos) σ H (kD d) := j_ix (ix_t hat) h hi hp
theorem j_litem {i : Int} (hat : atI ds i = some d) (h : JK M X a σ H (kL M ds)) (hi : JK M X b σ H (kI i)) (hp : PlainIx b := by intro _ _; rfl) : JK M X (.Subscript a b pos) σ H (kD d) := j_ix (ix_l hat) h hi hp
theorem j_neg {i : Int} (h : JK M X a σ H (kI i)) : JK M X (.UnaryOp .USub a pos) σ H (kI (-i)) := fun H1 x Q q =>
  we_of (pe_un un_neg pe_we) (h H1 x _ fun v H2 y k => ⟨i, kI_eq k, q _ H2 y kI_of⟩)
theorem atI_map {α : Type} {f : α → PyData} {l : List α} {i : Nat} {x : α} (h : l[i]? = some x) : atI (l.map f) (i : Int) = some (f x) := atI_nat (by rw [List.getElem?_map, h]; rfl)
theorem getD_get {α : Type} {l : List α} {i : Nat} (h : i < l.length) (x : α) : l[i]? = some (l.getD i x) := by rw [List.getD_eq_getElem?_getD, List.getElem?_eq_getElem h]; rfl
theorem at_C {i : Nat} (h : i < F.m) : F.ch[i]? = some (F.C i) := getD_get h _
theorem C_mem {i : Nat} (h : i < F.m) : F.C i ∈ F.ch := List.mem_of_getElem? (at_C h)
theorem C_u (ok : F.Ok) {i : Nat} (h : i < F.m) : (F.C i).u < F.n := (ok.ch _ (C_mem h)).1
theorem C_v (ok : F.Ok) {i : Nat} (h : i < F.m) : (F.C i).v < F.n := (ok.ch _ (C_mem h)).2.1
theorem C_r (ok : F.Ok) {i : Nat} (h : i < F.m) : 1 ≤ (F.C i).r ∧ (F.C i).r ≤ 1000 := (ok.ch _ (C_mem h)).2.2
theorem at_row (ok : F.Ok) {u : Nat} (h : u < F.n) : F.tb[u]? = some (F.tb.getD u []) := getD_get (by rw [ok.tl]; exact h) _
theorem at_op (ok : F.Ok) {u d : Nat} (h : u < F.n) (hd : d < F.n) : (F.tb.getD u [])[d]? = some (F.op u d) := getD_get (by rw [ok.rl _ (List.mem_of_getElem? (at_row ok h))]; exact hd) _
theorem j_f0 (h : JK M X a σ H (kD F.d)) {k : Nat} : JK M X (.Subscript a (.Constant (.int 0) k p) pos) σ H (kD F.dNet) := j_item (i := 0) rfl h j_int
theorem j_f1 (h : JK M X a σ H (kD F.d)) {k : Nat} : JK M X (.Subscript a (.Constant (.int 1) k p) pos) σ H (kD F.dTb) := j_item (i := 1) rfl h j_int
theorem j_n0 (h : JK M X a σ H (kD F.dNet)) {k : Nat} : JK M X (.Subscript a (.Constant (.int 0) k p) pos) σ H (kI (F.n : Int)) := j_item (i := 0) rfl h j_int
theorem j_n1 (h : JK M X a σ H (kD F.dNet)) {k : Nat} : JK M X (.Subscript a (.Constant (.int 1) k p) pos) σ H (kD (.tuple (F.ch.map dCh))) := j_item (i := 1) rfl h j_int
theorem j_ch {i : Nat} (hi : i < F.m) (h : JK M X a σ H (kD (.tuple (F.ch.map dCh)))) (hb : JK M X b σ H (kI (i : Int))) (hp : PlainIx b := by intro _ _; rfl) : JK M X (.Subscript a b pos) σ H (kD (dCh (F.C i))) := j_item (atI_map (at_C hi)) h hb hp
theorem j_c0 {x : Ch} (h : JK M X a σ H (kD (dCh x))) {k : Nat} : JK M X (.Subscript a (.Constant (.int 0) k p) pos) σ H (kI (x.u : Int)) := j_item (i := 0) rfl h j_int
theorem j_c1 {x : Ch} (h : JK M X a σ H (kD (dCh x))) {k : Nat} : JK M X (.Subscript a (.Constant (.int 1) k p) pos) σ H (kI (x.v : Int)) := j_item (i := 1) rfl h j_int
theorem j_c2 {x : Ch} (h : JK M X a σ H (kD (dCh x))) {k : Nat} : JK M X (.Subscript a (.Constant (.int 2) k p) pos) σ H (kI (x.r : Int)) := j_item (i := 2) rfl h j_int
theorem j_op2 {u d : Nat} (ok : F.Ok) (hu : u < F.n) (hd : d < F.n) (h : JK M X a σ H (kD F.dTb)) (hb : JK M X b σ H (kI (u : Int))) (hc : JK M X c σ H (kI (d : Int))) (hp : PlainIx b := by intro _ _; rfl) (hp2 : PlainIx c := by intro _ _; rfl) : JK M X (.Subscript (.Subscript a b pos) c pos2) σ H (kD (dNs (F.op u d))) :=
  j_item (atI_map (at_op ok hu hd)) (j_item (ds := F.tb.map dRow) (atI_map (at_row ok hu)) h hb hp) hc hp2
theorem j_lenCh (B : Blt X.mg) (h : JK M X a σ H (kD (.tuple (F.ch.map dCh)))) (hg : Gl X "len" := by rfl) (hs : starEach [a] X.env = (false, eval a X.env) :: starEach [] X.env := by rfl) : JK M X (.Call (.Name "len" p) [a] [] pos) σ H (kI (F.m : Int)) := by
  have := j_lenT (p := p) (pos := pos) B h hg hs
  rw [List.length_map] at this
  exact this
theorem j_lenNs {l : List Nat} (B : Blt X.mg) (h : JK M X a σ H (kD (dNs l))) (hg : Gl X "len" := by rfl) (hs : starEach [a] X.env = (false, eval a X.env) :: starEach [] X.env := by rfl) : JK M X (.Call (.Name "len" p) [a] [] pos) σ H (kI (l.length : Int)) := by
  have := j_lenT (p := p) (pos := pos) B h hg hs
  rw [List.length_map] at this
  exact this
theorem j_last {w : List Nat} (h0 : w ≠ []) (h : JK M X a σ H (kD (dNs w))) {k : Nat} {p3 : Pos} : JK M X (.Subscript a (.UnaryOp .USub (.Constant (.int 1) k p) p3) pos) σ H (kI (w.getLastD 0 : Nat)) :=
  j_item (i := -1) (atI_end (by
    rw [List.getLast?_map]
    cases w with
    | nil => exact absurd rfl h0
    | cons x r =>
      rw [List.getLast?_cons, List.getLastD_cons, List.getLastD_eq_getLast?]
      rfl)) h (j_neg j_int)
/-- (n, channels), table = .. -/
theorem g_fab {K : PySem.W.Frag} {i j l : Nat} {v : V} {d1 d2 d3 : PyData} {Q : L2.St → Hp → Prop} (h : Rp H v (.tuple [.tuple [d1, d2], d3])) (q : ∀ v1 v2 v3, Rp H v1 d1 → Rp H v2 d2 → Rp H v3 d3 → Q (((σ.set i (some v1)).set j (some v2)).set l (some v3)) H) :
    gTup K 2 (gCons (gTup K 2 (gCons (gName i) (gCons (gName j) gNil))) (gCons (gName l) gNil)) v σ H Q := by
  obtain ⟨p, xs, rfl, ex, r⟩ := rp_tup h
  cases r with
  | cons r1 r =>
    cases r with
    | cons r2 r =>
      cases r
      refine ⟨p, _, rfl, SqT.of ex, rfl, _, _, rfl, g_pair r1 fun v1 v2 h1 h2 => ⟨_, _, rfl, rfl, q _ _ _ h1 h2 r2⟩⟩
theorem s_fab {i j l : Nat} {x y z : Str} {rest : List Stmt} {D : Ends} {k1 k2 : Nat} {p1 p2 p3 p4 p5 : Pos} (hc : X.calm = true) (nd : X.N.Nodup) (hi : X.N[i]? = some x) (hj : X.N[j]? = some y) (hl : X.N[l]? = some z) (h : JK M X a σ H (kD F.d))
    (k : ∀ v1 v2 v3 H1, Xt M H H1 → kI (F.n : Int) H1 v1 → kD (.tuple (F.ch.map dCh)) H1 v2 → kD F.dTb H1 v3 → WSs X rest D (((σ.set i (some v1)).set j (some v2)).set l (some v3)) H1)
    (hx : Loc X.env.scope x := by first | exact Or.inl rfl | exact Or.inr rfl) (hy : Loc X.env.scope y := by first | exact Or.inl rfl | exact Or.inr rfl) (hz : Loc X.env.scope z := by first | exact Or.inl rfl | exact Or.inr rfl)
    (fx : X.fn x = true := by rfl) (fy : X.fn y = true := by rfl) (fz : X.fn z = true := by rfl)
    (hs : swapsWithSole [.Tuple [.Tuple [.Name x p1, .Name y p2] k1 p3, .Name z p4] k2 p5] a pos.line X.env = pure false := by rfl) (hw : swappedStores [.Tuple [.Tuple [.Name x p1, .Name y p2] k1 p3, .Name z p4] k2 p5] a X.env = pure none := by rfl) :
    WSs X (.Assign [.Tuple [.Tuple [.Name x p1, .Name y p2] k1 p3, .Name z p4] k2 p5] a pos :: rest) D σ H :=
  s_asgG (pg_tup hc (pgs_cons (pg_tup hc (pgs_cons (pg_name nd hi hx (.inl fx)) (pgs_cons (pg_name nd hj hy (.inl fy)) pgs_nil))) (pgs_cons (pg_name nd hl hz (.inl fz)) pgs_nil))) h (fun v H1 yx kv => g_fab (d1 := dI F.n) (d2 := .tuple (F.ch.map dCh)) (d3 := F.dTb) kv fun v1 v2 v3 h1 h2 h3 => k v1 v2 v3 H1 yx h1 h2 h3) hs hw
end
section
variable {P : Program} {w : World} {K : PySem.W.Frag} {mg : Str → Option Value} {base : Heap} {f : Addr} {fd : FuncData}
theorem scWo : FnScope ["fabric", "d", "way", "n", "channels", "table"] ["fabric", "d", "way"] (defScope (topS 5)) := ⟨rfl, rfl, rfl, by decide +kernel, rfl, by decide +kernel, by decide +kernel⟩
def WayIn (F : Fab) (d : Nat) (w : List Nat) : Prop := F.Ok ∧ d < F.n ∧ w ≠ [] ∧ ∀ c ∈ w, c < F.m
theorem last_mem {w : List Nat} (h : w ≠ []) : w.getLastD 0 ∈ w := by
  cases w with
  | nil => exact absurd rfl h
  | cons x r =>
    have e : (x :: r).getLastD 0 = (x :: r).getLast (by simp) := by
      rw [List.getLastD_eq_getLast?, List.getLast?_eq_some_getLast (by simp)]
      rfl
    rw [e]
    exact List.getLast_mem _
def spWo : Sp := spK [] (ι := Fab × Nat × List Nat) (fun i => WayIn i.1 i.2.1 i.2.2) (fun i => [kD i.1.d, kI (i.2.1 : Int), kD (dNs i.2.2)]) (fun i => kD (dNs (i.1.wo i.2.1 i.2.2)))
theorem fnWo (F : Fun K "way_options" "way_options" (topS 5) f fd) (hm : mg "way_options" = some (.ref f)) : FnK P w K mg base "way_options" ["fabric", "d", "way"] 1 spWo := by
  refine fn_k F hm scWo (fun _ => rfl) (fun _ _ _ _ _ _ us hl => match us, hl with | [_, _, _], _ => rfl) fun cdv A outer s H vs Q E i hr hp _ hk hq => ?_
  obtain ⟨F, d, way⟩ := i
  obtain ⟨ok, hd, h0, hm⟩ := hp
  obtain ⟨a, b, c, rfl, ha, hb, hc⟩ := k3 hk
  refine s_fab (M := M0) (i := 3) (j := 4) (l := 5) rfl scWo.nd rfl rfl rfl (j_var 0 rfl ha) fun v1 v2 v3 H1 x h1 h2 h3 => ?_
  have hl := hm _ (last_mem h0)
  refine s_ret (j_op2 ok (C_v ok hl) hd (j_var 5 rfl h3) (j_c1 (j_ch hl (j_var 4 rfl h2) (j_last h0 (j_var 2 rfl (Mn.mono x hc))))) (j_var 1 rfl (Mn.mono x hb))) fun v H2 y k => hq v H2 (x.trans y) k
end
end K68

set_option Elab.async false
set_option linter.all false
set_option maxRecDepth 100000
/-! K68, text S0 (printed by gen_scopes.py): the names of each def, the scopes of its comprehensions. -/
namespace K68
open PySem PySem.Spec L2
/-! 1 is_whole -/
abbrev N1 : List Str := ["value", "least", "most"]
abbrev A1 : List Str := ["value", "least", "most"]
theorem sc1 : FnScope N1 A1 (defScope (topS 1)) := ⟨rfl, rfl, rfl, by decide +kernel, rfl, by decide +kernel, by decide +kernel⟩
/-! 2 placements -/
abbrev N2 : List Str := ["fabric", "network", "table", "found", "c", "u", "d"]
abbrev A2 : List Str := ["fabric"]
theorem sc2 : FnScope N2 A2 (defScope (topS 2)) := ⟨rfl, rfl, rfl, by decide +kernel, rfl, by decide +kernel, by decide +kernel⟩
abbrev S2_0 : Scope := { kind := ScopeKind.function, names := [(Str.ofString ".0", NameKind.local), (Str.ofString "d", NameKind.local), (Str.ofString "c", NameKind.free), (Str.ofString "table", NameKind.free), (Str.ofString "u", NameKind.free)], isGenerator := false, isCoroutine := false, more := [] }
abbrev O2_0 : List (Str × Nat) := [("d", 6)]
theorem bk2_0 : BlkOk N2 (defScope (topS 2)) S2_0 O2_0 := ⟨rfl, by decide +kernel, by decide +kernel, by decide +kernel, by decide +kernel⟩
/-! 4 is_way -/
abbrev N4 : List Str := ["fabric", "d", "value", "n", "channels", "table", "c", "k"]
abbrev A4 : List Str := ["fabric", "d", "value"]
theorem sc4 : FnScope N4 A4 (defScope (topS 4)) := ⟨rfl, rfl, rfl, by decide +kernel, rfl, by decide +kernel, by decide +kernel⟩
abbrev S4_0 : Scope := { kind := ScopeKind.function, names := [(Str.ofString ".0", NameKind.local), (Str.ofString "c", NameKind.local), (Str.ofString "channels", NameKind.free), (Str.ofString "is_whole", NameKind.globalImplicit), (Str.ofString "len", NameKind.globalImplicit)], isGenerator := true, isCoroutine := false, more := [] }
abbrev O4_0 : List (Str × Nat) := [("c", 6)]
theorem bk4_0 : BlkOk N4 (defScope (topS 4)) S4_0 O4_0 := ⟨rfl, by decide +kernel, by decide +kernel, by decide +kernel, by decide +kernel⟩
abbrev S4_1 : Scope := { kind := ScopeKind.function, names := [(Str.ofString ".0", NameKind.local), (Str.ofString "k", NameKind.local), (Str.ofString "channels", NameKind.free), (Str.ofString "d", NameKind.free), (Str.ofString "table", NameKind.free), (Str.ofString "value", NameKind.free)], isGenerator := true, isCoroutine := false, more := [] }
abbrev O4_1 : List (Str × Nat) := [("k", 7)]
theorem bk4_1 : BlkOk N4 (defScope (topS 4)) S4_1 O4_1 := ⟨rfl, by decide +kernel, by decide +kernel, by decide +kernel, by decide +kernel⟩
/-! 5 way_options -/
abbrev N5 : List Str := ["fabric", "d", "way", "n", "channels", "table"]
abbrev A5 : List Str := ["fabric", "d", "way"]
theorem sc5 : FnScope N5 A5 (defScope (topS 5)) := ⟨rfl, rfl, rfl, by decide +kernel, rfl, by decide +kernel, by decide +kernel⟩
/-! 6 least_length -/
abbrev N6 : List Str := ["network", "way", "c"]
abbrev A6 : List Str := ["network", "way"]
theorem sc6 : FnScope N6 A6 (defScope (topS 6)) := ⟨rfl, rfl, rfl, by decide +kernel, rfl, by decide +kernel, by decide +kernel⟩
abbrev S6_0 : Scope := { kind := ScopeKind.function, names := [(Str.ofString ".0", NameKind.local), (Str.ofString "c", NameKind.local), (Str.ofString "network", NameKind.free)], isGenerator := false, isCoroutine := false, more := [] }
abbrev O6_0 : List (Str × Nat) := [("c", 2)]
theorem bk6_0 : BlkOk N6 (defScope (topS 6)) S6_0 O6_0 := ⟨rfl, by decide +kernel, by decide +kernel, by decide +kernel, by decide +kernel⟩
/-! 7 longer_behind -/
abbrev N7 : List Str := ["fabric", "longest", "out", "d", "way", "found", "waiting", "here", "c"]
abbrev A7 : List Str := ["fabric", "longest", "out", "d", "way"]
theorem sc7 : FnScope N7 A7 (defScope (topS 7)) := ⟨rfl, rfl, rfl, by decide +kernel, rfl, by decide +kernel, by decide +kernel⟩
abbrev S7_0 : Scope := { kind := ScopeKind.function, names := [(Str.ofString ".0", NameKind.local), (Str.ofString "c", NameKind.local), (Str.ofString "here", NameKind.free), (Str.ofString "out", NameKind.free)], isGenerator := false, isCoroutine := false, more := [] }
abbrev O7_0 : List (Str × Nat) := [("c", 8)]
theorem bk7_0 : BlkOk N7 (defScope (topS 7)) S7_0 O7_0 := ⟨rfl, by decide +kernel, by decide +kernel, by decide +kernel, by decide +kernel⟩
/-! 8 longer_ahead -/
abbrev N8 : List Str := ["fabric", "longest", "out", "d", "way", "n", "channels", "table", "found", "waiting", "here", "v", "c"]
abbrev A8 : List Str := ["fabric", "longest", "out", "d", "way"]
theorem sc8 : FnScope N8 A8 (defScope (topS 8)) := ⟨rfl, rfl, rfl, by decide +kernel, rfl, by decide +kernel, by decide +kernel⟩
/-! 9 ways_through -/
abbrev N9 : List Str := ["fabric", "longest", "out", "d", "c", "n", "channels", "table", "found", "way"]
abbrev A9 : List Str := ["fabric", "longest", "out", "d", "c"]
theorem sc9 : FnScope N9 A9 (defScope (topS 9)) := ⟨rfl, rfl, rfl, by decide +kernel, rfl, by decide +kernel, by decide +kernel⟩
/-! 10 candidates -/
abbrev N10 : List Str := ["fabric", "longest", "chosen", "barred", "c", "other", "out", "d", "way", "found"]
abbrev A10 : List Str := ["fabric", "longest", "chosen", "barred", "c"]
theorem sc10 : FnScope N10 A10 (defScope (topS 10)) := ⟨rfl, rfl, rfl, by decide +kernel, rfl, by decide +kernel, by decide +kernel⟩
abbrev S10_0 : Scope := { kind := ScopeKind.function, names := [(Str.ofString ".0", NameKind.local), (Str.ofString "other", NameKind.local)], isGenerator := false, isCoroutine := false, more := [] }
abbrev O10_0 : List (Str × Nat) := [("other", 5)]
theorem bk10_0 : BlkOk N10 (defScope (topS 10)) S10_0 O10_0 := ⟨rfl, by decide +kernel, by decide +kernel, by decide +kernel, by decide +kernel⟩
abbrev S10_1 : Scope := { kind := ScopeKind.function, names := [(Str.ofString ".0", NameKind.local), (Str.ofString "other", NameKind.local), (Str.ofString "barred", NameKind.free)], isGenerator := true, isCoroutine := false, more := [] }
abbrev O10_1 : List (Str × Nat) := [("other", 5)]
theorem bk10_1 : BlkOk N10 (defScope (topS 10)) S10_1 O10_1 := ⟨rfl, by decide +kernel, by decide +kernel, by decide +kernel, by decide +kernel⟩
/-! 11 is_idle -/
abbrev N11 : List Str := ["fabric", "longest", "chosen", "barred", "c"]
abbrev A11 : List Str := ["fabric", "longest", "chosen", "barred", "c"]
theorem sc11 : FnScope N11 A11 (defScope (topS 11)) := ⟨rfl, rfl, rfl, by decide +kernel, rfl, by decide +kernel, by decide +kernel⟩
/-! 13 all_options -/
abbrev N13 : List Str := ["fabric", "chosen", "d", "way", "c"]
abbrev A13 : List Str := ["fabric", "chosen"]
theorem sc13 : FnScope N13 A13 (defScope (topS 13)) := ⟨rfl, rfl, rfl, by decide +kernel, rfl, by decide +kernel, by decide +kernel⟩
abbrev S13_0 : Scope := { kind := ScopeKind.function, names := [(Str.ofString ".0", NameKind.local), (Str.ofString "d", NameKind.local), (Str.ofString "way", NameKind.local), (Str.ofString "c", NameKind.local), (Str.ofString "way_options", NameKind.globalImplicit), (Str.ofString "fabric", NameKind.free)], isGenerator := false, isCoroutine := false, more := [] }
abbrev O13_0 : List (Str × Nat) := [("d", 2), ("way", 3), ("c", 4)]
theorem bk13_0 : BlkOk N13 (defScope (topS 13)) S13_0 O13_0 := ⟨rfl, by decide +kernel, by decide +kernel, by decide +kernel, by decide +kernel⟩
/-! 14 held_by -/
abbrev N14 : List Str := ["chosen", "d", "way", "c"]
abbrev A14 : List Str := ["chosen"]
theorem sc14 : FnScope N14 A14 (defScope (topS 14)) := ⟨rfl, rfl, rfl, by decide +kernel, rfl, by decide +kernel, by decide +kernel⟩
abbrev S14_0 : Scope := { kind := ScopeKind.function, names := [(Str.ofString ".0", NameKind.local), (Str.ofString "d", NameKind.local), (Str.ofString "way", NameKind.local), (Str.ofString "c", NameKind.local)], isGenerator := false, isCoroutine := false, more := [] }
abbrev O14_0 : List (Str × Nat) := [("d", 1), ("way", 2), ("c", 3)]
theorem bk14_0 : BlkOk N14 (defScope (topS 14)) S14_0 O14_0 := ⟨rfl, by decide +kernel, by decide +kernel, by decide +kernel, by decide +kernel⟩
/-! 15 idle_order -/
abbrev N15 : List Str := ["fabric", "longest", "chosen", "barred", "out", "held", "order", "more", "c"]
abbrev A15 : List Str := ["fabric", "longest", "chosen", "barred"]
theorem sc15 : FnScope N15 A15 (defScope (topS 15)) := ⟨rfl, rfl, rfl, by decide +kernel, rfl, by decide +kernel, by decide +kernel⟩
/-! 16 is_closed -/
abbrev N16 : List Str := ["fabric", "chosen", "barred", "c"]
abbrev A16 : List Str := ["fabric", "chosen", "barred"]
theorem sc16 : FnScope N16 A16 (defScope (topS 16)) := ⟨rfl, rfl, rfl, by decide +kernel, rfl, by decide +kernel, by decide +kernel⟩
abbrev S16_0 : Scope := { kind := ScopeKind.function, names := [(Str.ofString ".0", NameKind.local), (Str.ofString "c", NameKind.local), (Str.ofString "barred", NameKind.free)], isGenerator := true, isCoroutine := false, more := [] }
abbrev O16_0 : List (Str × Nat) := [("c", 3)]
theorem bk16_0 : BlkOk N16 (defScope (topS 16)) S16_0 O16_0 := ⟨rfl, by decide +kernel, by decide +kernel, by decide +kernel, by decide +kernel⟩
/-! 17 open_channels -/
abbrev N17 : List Str := ["fabric", "chosen", "barred", "held", "every", "c"]
abbrev A17 : List Str := ["fabric", "chosen", "barred"]
theorem sc17 : FnScope N17 A17 (defScope (topS 17)) := ⟨rfl, rfl, rfl, by decide +kernel, rfl, by decide +kernel, by decide +kernel⟩
abbrev S17_0 : Scope := { kind := ScopeKind.function, names := [(Str.ofString ".0", NameKind.local), (Str.ofString "c", NameKind.local), (Str.ofString "barred", NameKind.free), (Str.ofString "held", NameKind.free)], isGenerator := false, isCoroutine := false, more := [] }
abbrev O17_0 : List (Str × Nat) := [("c", 5)]
theorem bk17_0 : BlkOk N17 (defScope (topS 17)) S17_0 O17_0 := ⟨rfl, by decide +kernel, by decide +kernel, by decide +kernel, by decide +kernel⟩
/-! 18 search -/
abbrev N18 : List Str := ["fabric", "longest", "chosen", "barred", "order", "left", "c", "rows", "trees", "pair", "word", "found"]
abbrev A18 : List Str := ["fabric", "longest", "chosen", "barred"]
theorem sc18 : FnScope N18 A18 (defScope (topS 18)) := ⟨rfl, rfl, rfl, by decide +kernel, rfl, by decide +kernel, by decide +kernel⟩
abbrev S18_0 : Scope := { kind := ScopeKind.function, names := [(Str.ofString ".0", NameKind.local), (Str.ofString "c", NameKind.local), (Str.ofString "len", NameKind.globalImplicit), (Str.ofString "candidates", NameKind.globalImplicit), (Str.ofString "barred", NameKind.free), (Str.ofString "chosen", NameKind.free), (Str.ofString "fabric", NameKind.free), (Str.ofString "longest", NameKind.free)], isGenerator := false, isCoroutine := false, more := [] }
abbrev O18_0 : List (Str × Nat) := [("c", 6)]
theorem bk18_0 : BlkOk N18 (defScope (topS 18)) S18_0 O18_0 := ⟨rfl, by decide +kernel, by decide +kernel, by decide +kernel, by decide +kernel⟩
/-! 19 worm_verdict -/
abbrev N19 : List Str := ["fabric", "longest"]
abbrev A19 : List Str := ["fabric", "longest"]
theorem sc19 : FnScope N19 A19 (defScope (topS 19)) := ⟨rfl, rfl, rfl, by decide +kernel, rfl, by decide +kernel, by decide +kernel⟩
/-! 20 is_order -/
abbrev N20 : List Str := ["fabric", "longest", "chosen", "barred", "order", "held", "k", "c"]
abbrev A20 : List Str := ["fabric", "longest", "chosen", "barred", "order"]
theorem sc20 : FnScope N20 A20 (defScope (topS 20)) := ⟨rfl, rfl, rfl, by decide +kernel, rfl, by decide +kernel, by decide +kernel⟩
/-! 21 is_search_tree -/
abbrev N21 : List Str := ["fabric", "longest", "chosen", "barred", "value", "word", "order", "c", "trees", "pairs", "rest", "k"]
abbrev A21 : List Str := ["fabric", "longest", "chosen", "barred", "value"]
theorem sc21 : FnScope N21 A21 (defScope (topS 21)) := ⟨rfl, rfl, rfl, by decide +kernel, rfl, by decide +kernel, by decide +kernel⟩
/-! 24 are_ways -/
abbrev N24 : List Str := ["fabric", "longest", "value", "d", "way", "pair", "k"]
abbrev A24 : List Str := ["fabric", "longest", "value"]
theorem sc24 : FnScope N24 A24 (defScope (topS 24)) := ⟨rfl, rfl, rfl, by decide +kernel, rfl, by decide +kernel, by decide +kernel⟩
abbrev S24_0 : Scope := { kind := ScopeKind.function, names := [(Str.ofString ".0", NameKind.local), (Str.ofString "pair", NameKind.local), (Str.ofString "isinstance", NameKind.globalImplicit), (Str.ofString "tuple", NameKind.globalImplicit), (Str.ofString "len", NameKind.globalImplicit)], isGenerator := true, isCoroutine := false, more := [] }
abbrev O24_0 : List (Str × Nat) := [("pair", 5)]
theorem bk24_0 : BlkOk N24 (defScope (topS 24)) S24_0 O24_0 := ⟨rfl, by decide +kernel, by decide +kernel, by decide +kernel, by decide +kernel⟩
abbrev S24_1 : Scope := { kind := ScopeKind.function, names := [(Str.ofString ".0", NameKind.local), (Str.ofString "k", NameKind.local), (Str.ofString "value", NameKind.free)], isGenerator := true, isCoroutine := false, more := [] }
abbrev O24_1 : List (Str × Nat) := [("k", 6)]
theorem bk24_1 : BlkOk N24 (defScope (topS 24)) S24_1 O24_1 := ⟨rfl, by decide +kernel, by decide +kernel, by decide +kernel, by decide +kernel⟩
/-! 25 is_worm_knot -/
abbrev N25 : List Str := ["fabric", "longest", "value", "held", "d", "way", "c"]
abbrev A25 : List Str := ["fabric", "longest", "value"]
theorem sc25 : FnScope N25 A25 (defScope (topS 25)) := ⟨rfl, rfl, rfl, by decide +kernel, rfl, by decide +kernel, by decide +kernel⟩
abbrev S25_0 : Scope := { kind := ScopeKind.function, names := [(Str.ofString ".0", NameKind.local), (Str.ofString "d", NameKind.local), (Str.ofString "way", NameKind.local), (Str.ofString "c", NameKind.local)], isGenerator := false, isCoroutine := false, more := [] }
abbrev O25_0 : List (Str × Nat) := [("d", 4), ("way", 5), ("c", 6)]
theorem bk25_0 : BlkOk N25 (defScope (topS 25)) S25_0 O25_0 := ⟨rfl, by decide +kernel, by decide +kernel, by decide +kernel, by decide +kernel⟩
abbrev S25_1 : Scope := { kind := ScopeKind.function, names := [(Str.ofString ".0", NameKind.local), (Str.ofString "d", NameKind.local), (Str.ofString "way", NameKind.local), (Str.ofString "c", NameKind.local), (Str.ofString "fabric", NameKind.free), (Str.ofString "held", NameKind.free), (Str.ofString "way_options", NameKind.globalImplicit)], isGenerator := true, isCoroutine := false, more := [] }
abbrev O25_1 : List (Str × Nat) := [("d", 4), ("way", 5), ("c", 6)]
theorem bk25_1 : BlkOk N25 (defScope (topS 25)) S25_1 O25_1 := ⟨rfl, by decide +kernel, by decide +kernel, by decide +kernel, by decide +kernel⟩
/-! 26 find_worm_knot -/
abbrev N26 : List Str := ["fabric", "longest", "word", "paper"]
abbrev A26 : List Str := ["fabric", "longest"]
theorem sc26 : FnScope N26 A26 (defScope (topS 26)) := ⟨rfl, rfl, rfl, by decide +kernel, rfl, by decide +kernel, by decide +kernel⟩
/-! 27 critical_length -/
abbrev N27 : List Str := ["fabric", "knot", "low", "high", "middle", "d", "way"]
abbrev A27 : List Str := ["fabric"]
theorem sc27 : FnScope N27 A27 (defScope (topS 27)) := ⟨rfl, rfl, rfl, by decide +kernel, rfl, by decide +kernel, by decide +kernel⟩
abbrev S27_0 : Scope := { kind := ScopeKind.function, names := [(Str.ofString ".0", NameKind.local), (Str.ofString "d", NameKind.local), (Str.ofString "way", NameKind.local), (Str.ofString "least_length", NameKind.globalImplicit), (Str.ofString "fabric", NameKind.free)], isGenerator := false, isCoroutine := false, more := [] }
abbrev O27_0 : List (Str × Nat) := [("d", 5), ("way", 6)]
theorem bk27_0 : BlkOk N27 (defScope (topS 27)) S27_0 O27_0 := ⟨rfl, by decide +kernel, by decide +kernel, by decide +kernel, by decide +kernel⟩
abbrev S27_1 : Scope := { kind := ScopeKind.function, names := [(Str.ofString ".0", NameKind.local), (Str.ofString "d", NameKind.local), (Str.ofString "way", NameKind.local), (Str.ofString "least_length", NameKind.globalImplicit), (Str.ofString "fabric", NameKind.free)], isGenerator := false, isCoroutine := false, more := [] }
abbrev O27_1 : List (Str × Nat) := [("d", 5), ("way", 6)]
theorem bk27_1 : BlkOk N27 (defScope (topS 27)) S27_1 O27_1 := ⟨rfl, by decide +kernel, by decide +kernel, by decide +kernel, by decide +kernel⟩
/-! 29 case_of -/
abbrev N29 : List Str := ["fabric"]
abbrev A29 : List Str := ["fabric"]
theorem sc29 : FnScope N29 A29 (defScope (topS 29)) := ⟨rfl, rfl, rfl, by decide +kernel, rfl, by decide +kernel, by decide +kernel⟩
/-! 30 case_placements -/
abbrev N30 : List Str := ["case"]
abbrev A30 : List Str := ["case"]
theorem sc30 : FnScope N30 A30 (defScope (topS 30)) := ⟨rfl, rfl, rfl, by decide +kernel, rfl, by decide +kernel, by decide +kernel⟩
/-! 31 case_options -/
abbrev N31 : List Str := ["case", "c", "d"]
abbrev A31 : List Str := ["case", "c", "d"]
theorem sc31 : FnScope N31 A31 (defScope (topS 31)) := ⟨rfl, rfl, rfl, by decide +kernel, rfl, by decide +kernel, by decide +kernel⟩
/-! 32 away_goals -/
abbrev N32 : List Str := ["case", "found", "c", "d", "_"]
abbrev A32 : List Str := ["case"]
theorem sc32 : FnScope N32 A32 (defScope (topS 32)) := ⟨rfl, rfl, rfl, by decide +kernel, rfl, by decide +kernel, by decide +kernel⟩
abbrev S32_0 : Scope := { kind := ScopeKind.function, names := [(Str.ofString ".0", NameKind.local), (Str.ofString "_", NameKind.local)], isGenerator := false, isCoroutine := false, more := [] }
abbrev O32_0 : List (Str × Nat) := [("_", 4)]
theorem bk32_0 : BlkOk N32 (defScope (topS 32)) S32_0 O32_0 := ⟨rfl, by decide +kernel, by decide +kernel, by decide +kernel, by decide +kernel⟩
/-! 34 goal_within -/
abbrev N34 : List Str := ["goals", "there", "d", "found", "c"]
abbrev A34 : List Str := ["goals", "there"]
theorem sc34 : FnScope N34 A34 (defScope (topS 34)) := ⟨rfl, rfl, rfl, by decide +kernel, rfl, by decide +kernel, by decide +kernel⟩
abbrev S34_0 : Scope := { kind := ScopeKind.function, names := [(Str.ofString ".0", NameKind.local), (Str.ofString "c", NameKind.local), (Str.ofString "there", NameKind.free)], isGenerator := true, isCoroutine := false, more := [] }
abbrev O34_0 : List (Str × Nat) := [("c", 4)]
theorem bk34_0 : BlkOk N34 (defScope (topS 34)) S34_0 O34_0 := ⟨rfl, by decide +kernel, by decide +kernel, by decide +kernel, by decide +kernel⟩
/-! 35 staged -/
abbrev N35 : List Str := ["goals", "there", "stages", "stage", "c", "out"]
abbrev A35 : List Str := ["goals", "there"]
theorem sc35 : FnScope N35 A35 (defScope (topS 35)) := ⟨rfl, rfl, rfl, by decide +kernel, rfl, by decide +kernel, by decide +kernel⟩
abbrev S35_0 : Scope := { kind := ScopeKind.function, names := [(Str.ofString ".0", NameKind.local), (Str.ofString "c", NameKind.local), (Str.ofString "goal_within", NameKind.globalImplicit), (Str.ofString "goals", NameKind.free), (Str.ofString "there", NameKind.free)], isGenerator := false, isCoroutine := false, more := [] }
abbrev O35_0 : List (Str × Nat) := [("c", 4)]
theorem bk35_0 : BlkOk N35 (defScope (topS 35)) S35_0 O35_0 := ⟨rfl, by decide +kernel, by decide +kernel, by decide +kernel, by decide +kernel⟩
abbrev S35_1 : Scope := { kind := ScopeKind.function, names := [(Str.ofString ".0", NameKind.local), (Str.ofString "c", NameKind.local), (Str.ofString "goal_within", NameKind.globalImplicit), (Str.ofString "goals", NameKind.free), (Str.ofString "there", NameKind.free)], isGenerator := false, isCoroutine := false, more := [] }
abbrev O35_1 : List (Str × Nat) := [("c", 4)]
theorem bk35_1 : BlkOk N35 (defScope (topS 35)) S35_1 O35_1 := ⟨rfl, by decide +kernel, by decide +kernel, by decide +kernel, by decide +kernel⟩
/-! 36 all_channels -/
abbrev N36 : List Str := ["case", "c"]
abbrev A36 : List Str := ["case"]
theorem sc36 : FnScope N36 A36 (defScope (topS 36)) := ⟨rfl, rfl, rfl, by decide +kernel, rfl, by decide +kernel, by decide +kernel⟩
abbrev S36_0 : Scope := { kind := ScopeKind.function, names := [(Str.ofString ".0", NameKind.local), (Str.ofString "c", NameKind.local)], isGenerator := false, isCoroutine := false, more := [] }
abbrev O36_0 : List (Str × Nat) := [("c", 1)]
theorem bk36_0 : BlkOk N36 (defScope (topS 36)) S36_0 O36_0 := ⟨rfl, by decide +kernel, by decide +kernel, by decide +kernel, by decide +kernel⟩
/-! 37 knot_of -/
abbrev N37 : List Str := ["goals", "there", "c"]
abbrev A37 : List Str := ["goals", "there"]
theorem sc37 : FnScope N37 A37 (defScope (topS 37)) := ⟨rfl, rfl, rfl, by decide +kernel, rfl, by decide +kernel, by decide +kernel⟩
abbrev S37_0 : Scope := { kind := ScopeKind.function, names := [(Str.ofString ".0", NameKind.local), (Str.ofString "c", NameKind.local), (Str.ofString "goal_within", NameKind.globalImplicit), (Str.ofString "goals", NameKind.free), (Str.ofString "there", NameKind.free)], isGenerator := false, isCoroutine := false, more := [] }
abbrev O37_0 : List (Str × Nat) := [("c", 2)]
theorem bk37_0 : BlkOk N37 (defScope (topS 37)) S37_0 O37_0 := ⟨rfl, by decide +kernel, by decide +kernel, by decide +kernel, by decide +kernel⟩
/-! 38 least_ranks -/
abbrev N38 : List Str := ["case", "stages", "there", "c"]
abbrev A38 : List Str := ["case"]
theorem sc38 : FnScope N38 A38 (defScope (topS 38)) := ⟨rfl, rfl, rfl, by decide +kernel, rfl, by decide +kernel, by decide +kernel⟩
abbrev S38_0 : Scope := { kind := ScopeKind.function, names := [(Str.ofString ".0", NameKind.local), (Str.ofString "c", NameKind.local), (Str.ofString "stages", NameKind.free)], isGenerator := false, isCoroutine := false, more := [] }
abbrev O38_0 : List (Str × Nat) := [("c", 3)]
theorem bk38_0 : BlkOk N38 (defScope (topS 38)) S38_0 O38_0 := ⟨rfl, by decide +kernel, by decide +kernel, by decide +kernel, by decide +kernel⟩
/-! 39 greatest_knot -/
abbrev N39 : List Str := ["case", "goals", "there"]
abbrev A39 : List Str := ["case"]
theorem sc39 : FnScope N39 A39 (defScope (topS 39)) := ⟨rfl, rfl, rfl, by decide +kernel, rfl, by decide +kernel, by decide +kernel⟩
/-! 41 _law_box -/
abbrev N41 : List Str := ["_law_script", "_law_nodes"]
abbrev A41 : List Str := ["_law_script", "_law_nodes"]
theorem sc41 : FnScope N41 A41 (defScope (topS 41)) := ⟨rfl, rfl, rfl, by decide +kernel, rfl, by decide +kernel, by decide +kernel⟩
/-! 42 _law_load -/
abbrev N42 : List Str := ["_law_box_here", "_law_cells", "_law_cell", "_law_size", "_law_first", "_law_second"]
abbrev A42 : List Str := ["_law_box_here"]
theorem sc42 : FnScope N42 A42 (defScope (topS 42)) := ⟨rfl, rfl, rfl, by decide +kernel, rfl, by decide +kernel, by decide +kernel⟩
/-! 43 _law_draw -/
abbrev N43 : List Str := ["_law_box_here", "_law_many", "_law_digit"]
abbrev A43 : List Str := ["_law_box_here", "_law_many"]
theorem sc43 : FnScope N43 A43 (defScope (topS 43)) := ⟨rfl, rfl, rfl, by decide +kernel, rfl, by decide +kernel, by decide +kernel⟩
/-! 44 _law_channels -/
abbrev N44 : List Str := ["_law_box_here", "_law_n", "_law_many", "_law_most", "_law_rows", "_law_k", "_law_u", "_law_v"]
abbrev A44 : List Str := ["_law_box_here", "_law_n", "_law_many", "_law_most"]
theorem sc44 : FnScope N44 A44 (defScope (topS 44)) := ⟨rfl, rfl, rfl, by decide +kernel, rfl, by decide +kernel, by decide +kernel⟩
/-! 45 _law_ring -/
abbrev N45 : List Str := ["_law_box_here", "_law_n", "_law_most", "_law_rows", "_law_u"]
abbrev A45 : List Str := ["_law_box_here", "_law_n", "_law_most"]
theorem sc45 : FnScope N45 A45 (defScope (topS 45)) := ⟨rfl, rfl, rfl, by decide +kernel, rfl, by decide +kernel, by decide +kernel⟩
abbrev S45_0 : Scope := { kind := ScopeKind.function, names := [(Str.ofString ".0", NameKind.local), (Str.ofString "_law_u", NameKind.local), (Str.ofString "_law_draw", NameKind.globalImplicit), (Str.ofString "_law_box_here", NameKind.free), (Str.ofString "_law_most", NameKind.free), (Str.ofString "_law_n", NameKind.free)], isGenerator := false, isCoroutine := false, more := [] }
abbrev O45_0 : List (Str × Nat) := [("_law_u", 4)]
theorem bk45_0 : BlkOk N45 (defScope (topS 45)) S45_0 O45_0 := ⟨rfl, by decide +kernel, by decide +kernel, by decide +kernel, by decide +kernel⟩
/-! 46 _law_away -/
abbrev N46 : List Str := ["_law_network", "_law_d", "_law_found", "_law_turn", "_law_source", "_law_target", "_law_room", "_law_u"]
abbrev A46 : List Str := ["_law_network", "_law_d"]
theorem sc46 : FnScope N46 A46 (defScope (topS 46)) := ⟨rfl, rfl, rfl, by decide +kernel, rfl, by decide +kernel, by decide +kernel⟩
abbrev S46_0 : Scope := { kind := ScopeKind.function, names := [(Str.ofString ".0", NameKind.local), (Str.ofString "_law_u", NameKind.local), (Str.ofString "_law_d", NameKind.free)], isGenerator := false, isCoroutine := false, more := [] }
abbrev O46_0 : List (Str × Nat) := [("_law_u", 7)]
theorem bk46_0 : BlkOk N46 (defScope (topS 46)) S46_0 O46_0 := ⟨rfl, by decide +kernel, by decide +kernel, by decide +kernel, by decide +kernel⟩
/-! 47 _law_thin -/
abbrev N47 : List Str := ["_law_network", "_law_table", "_law_n", "_law_u", "_law_d", "_law_alive", "_law_turn", "_law_ends", "_law_rows", "_law_row", "_law_c", "_law_v"]
abbrev A47 : List Str := ["_law_network", "_law_table"]
theorem sc47 : FnScope N47 A47 (defScope (topS 47)) := ⟨rfl, rfl, rfl, by decide +kernel, rfl, by decide +kernel, by decide +kernel⟩
abbrev S47_0 : Scope := { kind := ScopeKind.function, names := [(Str.ofString ".0", NameKind.local), (Str.ofString "_law_d", NameKind.local), (Str.ofString "_law_table", NameKind.free), (Str.ofString "_law_u", NameKind.free)], isGenerator := false, isCoroutine := false, more := [] }
abbrev O47_0 : List (Str × Nat) := [("_law_d", 4)]
abbrev S47_1 : Scope := { kind := ScopeKind.function, names := [(Str.ofString ".0", NameKind.local), (Str.ofString "_law_u", NameKind.cell), (Str.ofString "range", NameKind.globalImplicit), (Str.ofString "_law_n", NameKind.free), (Str.ofString "_law_table", NameKind.free)], isGenerator := false, isCoroutine := false, more := [] }
abbrev O47_1 : List (Str × Nat) := [("_law_u", 3)]
theorem bk47_1 : BlkOk N47 (defScope (topS 47)) S47_1 O47_1 := ⟨rfl, by decide +kernel, by decide +kernel, by decide +kernel, by decide +kernel⟩
abbrev S47_2 : Scope := { kind := ScopeKind.function, names := [(Str.ofString ".0", NameKind.local), (Str.ofString "_law_c", NameKind.local), (Str.ofString "_law_network", NameKind.free)], isGenerator := false, isCoroutine := false, more := [] }
abbrev O47_2 : List (Str × Nat) := [("_law_c", 10)]
theorem bk47_2 : BlkOk N47 (defScope (topS 47)) S47_2 O47_2 := ⟨rfl, by decide +kernel, by decide +kernel, by decide +kernel, by decide +kernel⟩
abbrev S47_3 : Scope := { kind := ScopeKind.function, names := [(Str.ofString ".0", NameKind.local), (Str.ofString "_law_v", NameKind.local), (Str.ofString "_law_alive", NameKind.free), (Str.ofString "_law_d", NameKind.free)], isGenerator := false, isCoroutine := false, more := [] }
abbrev O47_3 : List (Str × Nat) := [("_law_v", 11)]
theorem bk47_3 : BlkOk N47 (defScope (topS 47)) S47_3 O47_3 := ⟨rfl, by decide +kernel, by decide +kernel, by decide +kernel, by decide +kernel⟩
abbrev S47_4 : Scope := { kind := ScopeKind.function, names := [(Str.ofString ".0", NameKind.local), (Str.ofString "_law_c", NameKind.local), (Str.ofString "_law_alive", NameKind.free), (Str.ofString "_law_d", NameKind.free), (Str.ofString "_law_network", NameKind.free)], isGenerator := false, isCoroutine := false, more := [] }
abbrev O47_4 : List (Str × Nat) := [("_law_c", 10)]
theorem bk47_4 : BlkOk N47 (defScope (topS 47)) S47_4 O47_4 := ⟨rfl, by decide +kernel, by decide +kernel, by decide +kernel, by decide +kernel⟩
/-! 48 _law_drawn_table -/
abbrev N48 : List Str := ["_law_box_here", "_law_network", "_law_kind", "_law_n", "_law_some", "_law_u", "_law_d", "_law_rows", "_law_away_here", "_law_near", "_law_short", "_law_c", "_law_row"]
abbrev A48 : List Str := ["_law_box_here", "_law_network", "_law_kind"]
theorem sc48 : FnScope N48 A48 (defScope (topS 48)) := ⟨rfl, rfl, rfl, by decide +kernel, rfl, by decide +kernel, by decide +kernel⟩
abbrev S48_0 : Scope := { kind := ScopeKind.function, names := [(Str.ofString ".0", NameKind.local), (Str.ofString "_law_d", NameKind.local)], isGenerator := false, isCoroutine := false, more := [] }
abbrev O48_0 : List (Str × Nat) := [("_law_d", 6)]
theorem bk48_0 : BlkOk N48 (defScope (topS 48)) S48_0 O48_0 := ⟨rfl, by decide +kernel, by decide +kernel, by decide +kernel, by decide +kernel⟩
abbrev S48_1 : Scope := { kind := ScopeKind.function, names := [(Str.ofString ".0", NameKind.local), (Str.ofString "_law_u", NameKind.local), (Str.ofString "range", NameKind.globalImplicit), (Str.ofString "_law_n", NameKind.free)], isGenerator := false, isCoroutine := false, more := [] }
abbrev O48_1 : List (Str × Nat) := [("_law_u", 5)]
theorem bk48_1 : BlkOk N48 (defScope (topS 48)) S48_1 O48_1 := ⟨rfl, by decide +kernel, by decide +kernel, by decide +kernel, by decide +kernel⟩
abbrev S48_2 : Scope := { kind := ScopeKind.function, names := [(Str.ofString ".0", NameKind.local), (Str.ofString "_law_c", NameKind.local), (Str.ofString "_law_d", NameKind.free), (Str.ofString "_law_network", NameKind.free), (Str.ofString "_law_u", NameKind.free)], isGenerator := false, isCoroutine := false, more := [] }
abbrev O48_2 : List (Str × Nat) := [("_law_c", 11)]
theorem bk48_2 : BlkOk N48 (defScope (topS 48)) S48_2 O48_2 := ⟨rfl, by decide +kernel, by decide +kernel, by decide +kernel, by decide +kernel⟩
abbrev S48_3 : Scope := { kind := ScopeKind.function, names := [(Str.ofString ".0", NameKind.local), (Str.ofString "_law_c", NameKind.local), (Str.ofString "_law_away_here", NameKind.free), (Str.ofString "_law_network", NameKind.free), (Str.ofString "_law_u", NameKind.free)], isGenerator := false, isCoroutine := false, more := [] }
abbrev O48_3 : List (Str × Nat) := [("_law_c", 11)]
theorem bk48_3 : BlkOk N48 (defScope (topS 48)) S48_3 O48_3 := ⟨rfl, by decide +kernel, by decide +kernel, by decide +kernel, by decide +kernel⟩
abbrev S48_4 : Scope := { kind := ScopeKind.function, names := [(Str.ofString ".0", NameKind.local), (Str.ofString "_law_c", NameKind.local), (Str.ofString "_law_draw", NameKind.globalImplicit), (Str.ofString "_law_box_here", NameKind.free), (Str.ofString "_law_short", NameKind.free)], isGenerator := false, isCoroutine := false, more := [] }
abbrev O48_4 : List (Str × Nat) := [("_law_c", 11)]
theorem bk48_4 : BlkOk N48 (defScope (topS 48)) S48_4 O48_4 := ⟨rfl, by decide +kernel, by decide +kernel, by decide +kernel, by decide +kernel⟩
abbrev S48_5 : Scope := { kind := ScopeKind.function, names := [(Str.ofString ".0", NameKind.local), (Str.ofString "_law_c", NameKind.local), (Str.ofString "_law_away_here", NameKind.free), (Str.ofString "_law_network", NameKind.free)], isGenerator := false, isCoroutine := false, more := [] }
abbrev O48_5 : List (Str × Nat) := [("_law_c", 11)]
theorem bk48_5 : BlkOk N48 (defScope (topS 48)) S48_5 O48_5 := ⟨rfl, by decide +kernel, by decide +kernel, by decide +kernel, by decide +kernel⟩
abbrev S48_6 : Scope := { kind := ScopeKind.function, names := [(Str.ofString ".0", NameKind.local), (Str.ofString "_law_c", NameKind.local), (Str.ofString "_law_draw", NameKind.globalImplicit), (Str.ofString "_law_box_here", NameKind.free), (Str.ofString "_law_some", NameKind.free)], isGenerator := false, isCoroutine := false, more := [] }
abbrev O48_6 : List (Str × Nat) := [("_law_c", 11)]
theorem bk48_6 : BlkOk N48 (defScope (topS 48)) S48_6 O48_6 := ⟨rfl, by decide +kernel, by decide +kernel, by decide +kernel, by decide +kernel⟩
abbrev S48_7 : Scope := { kind := ScopeKind.function, names := [(Str.ofString ".0", NameKind.local), (Str.ofString "_law_row", NameKind.local), (Str.ofString "tuple", NameKind.globalImplicit)], isGenerator := false, isCoroutine := false, more := [] }
abbrev O48_7 : List (Str × Nat) := [("_law_row", 12)]
theorem bk48_7 : BlkOk N48 (defScope (topS 48)) S48_7 O48_7 := ⟨rfl, by decide +kernel, by decide +kernel, by decide +kernel, by decide +kernel⟩
/-! 49 _law_worm_fabric -/
abbrev N49 : List Str := ["_law_box_here", "_law_many", "_law_n", "_law_most", "_law_channels_here", "_law_network"]
abbrev A49 : List Str := ["_law_box_here", "_law_many"]
theorem sc49 : FnScope N49 A49 (defScope (topS 49)) := ⟨rfl, rfl, rfl, by decide +kernel, rfl, by decide +kernel, by decide +kernel⟩
/-! 50 law -/
abbrev N50 : List Str := ["_law_script", "_law_box_here", "_law_fabric", "_law_case", "_law_knot", "_law_one", "_law_least", "_law_found", "_law_word", "_law_tree", "_law_d", "_law_way", "_law_c"]
abbrev A50 : List Str := ["_law_script"]
theorem sc50 : FnScope N50 A50 (defScope (topS 50)) := ⟨rfl, rfl, rfl, by decide +kernel, rfl, by decide +kernel, by decide +kernel⟩
abbrev S50_0 : Scope := { kind := ScopeKind.function, names := [(Str.ofString ".0", NameKind.local), (Str.ofString "_law_d", NameKind.local), (Str.ofString "_law_way", NameKind.local), (Str.ofString "len", NameKind.globalImplicit)], isGenerator := false, isCoroutine := false, more := [] }
abbrev O50_0 : List (Str × Nat) := [("_law_d", 10), ("_law_way", 11)]
theorem bk50_0 : BlkOk N50 (defScope (topS 50)) S50_0 O50_0 := ⟨rfl, by decide +kernel, by decide +kernel, by decide +kernel, by decide +kernel⟩
abbrev S50_1 : Scope := { kind := ScopeKind.function, names := [(Str.ofString ".0", NameKind.local), (Str.ofString "_law_c", NameKind.local), (Str.ofString "_law_d", NameKind.local)], isGenerator := false, isCoroutine := false, more := [] }
abbrev O50_1 : List (Str × Nat) := [("_law_c", 12), ("_law_d", 10)]
theorem bk50_1 : BlkOk N50 (defScope (topS 50)) S50_1 O50_1 := ⟨rfl, by decide +kernel, by decide +kernel, by decide +kernel, by decide +kernel⟩
end K68

set_option Elab.async false
set_option linter.all false
set_option maxRecDepth 100000
set_option maxHeartbeats 1000000
/-! K68, text B3: least_length, is_way. -/
namespace K68
open PySem PySem.Spec L2
open PyProof.Rows hiding St
theorem castI_sum : ∀ l : List Nat, (castI l).sum = ((l.sum : Nat) : Int)
  | [] => rfl
  | x :: r => by
    have e1 : castI (x :: r) = (x : Int) :: castI r := rfl
    rw [e1, List.sum_cons, List.sum_cons, castI_sum r]
    omega
section
variable {M : Md} {X : Cx} {K : Kn} {a b c : Expr} {es : List Expr} {σ : L2.St} {H : Hp} {p p2 pos pos2 : Pos} {ds : List PyData} {d : PyData} {F : Fab}
theorem j_sumN {l : List Nat} (B : Blt X.mg) (hc : X.calm = true) (h : JL M X a σ H (l.map dI)) (hi : M.i H := by first | exact trivial | assumption) (hg : Gl X "sum" := by rfl) (hs : starEach [a] X.env = (false, eval a X.env) :: starEach [] X.env := by rfl) : JK M X (.Call (.Name "sum" p) [a] [] pos) σ H (kI (l.sum : Nat)) := by
  rw [map_dI] at h
  rw [← castI_sum]
  exact j_callB (ck_sum hc) hg B.sum bt_sum (ja_cons (h.k hi) ja_nil hs) (by decide) (by decide) hs rfl
theorem filter_T {α β : Type} (l : List α) (g : α → β) : (l.filter fun _ => true).map g = l.map g := by rw [List.filter_eq_self.mpr fun _ _ => rfl]
/-- [e for x in ..] -/
theorem j_lcT {β : Type} {scope : Scope} {tg it elt : Expr} {g : TG} {bs : List β} {enc gg : β → PyData} {Gd : β → L2.St → Hp → Prop} {own : List (Str × Nat)} (hc : X.calm = true) (nd : X.N.Nodup) (ok : BlkOk X.N X.env.scope scope own)
    (hg : ∀ (s : Shared) (H : Hp) (C : Addr) (cl : List (Str × Addr)) (fp : List Addr), PG (X.blk s H scope (compEnvC scope cl C X.env) fp) tg g)
    (h : JIx M X tg it σ H (bs.map enc)) (hl : bs.length ≤ 1000000) (hgt : TgOk M H σ g (own.map (·.2)) bs enc Gd) (he : ∀ H1 b σ2, Xt M H H1 → b ∈ bs → Gd b σ2 H1 → JBK M X scope elt σ2 H1 (kD (gg b))) (hi : M.i H := by first | exact trivial | assumption)
    (hs : ∀ x, foldedSetIterable it X.env x = pure x := by intro _; rfl) : JL M X (.ListComp elt [⟨tg, it, [], 0⟩] scope pos) σ H (bs.map gg) := by
  rw [← filter_T]
  exact j_lc hc nd ok hg h hl hgt hi (fun H1 b σ2 x hb gd => jbts_nil) (fun H1 b σ2 x hb gd _ => he H1 b σ2 x hb gd) hs
theorem j_tail {w : List Nat} (h : JK M X a σ H (kD (dNs w))) {k : Nat} {p3 : Pos} : JK M X (.Subscript a (.Slice (some (.Constant (.int 1) k p)) none none p3) pos) σ H (kD (dNs (w.drop 1))) := by
  have e : dNs (w.drop 1) = .tuple ((w.map dI).drop 1) := by unfold dNs; rw [List.map_drop]
  rw [e]
  exact j_cutFrom (k := 1) h j_int
end
section
variable {P : Program} {w : World} {K : PySem.W.Frag} {mg : Str → Option Value} {base : Heap} {f : Addr} {fd : FuncData}
def spLl : Sp := spK [] (ι := Fab × List Nat) (fun i => i.1.Ok ∧ i.2.length ≤ 1000 ∧ ∀ c ∈ i.2, c < i.1.m) (fun i => [kD i.1.dNet, kD (dNs i.2)]) (fun i => kI (i.1.ll i.2 : Nat))
theorem fnLl (B : Blt mg) (F : Fun K "least_length" "least_length" (topS 6) f fd) (hm : mg "least_length" = some (.ref f)) : FnK P w K mg base "least_length" A6 1 spLl := by
  refine fn_k F hm sc6 (fun _ => rfl) (fun _ _ _ _ _ _ us hl => match us, hl with | [_, _], _ => rfl) fun cdv A outer s H vs Q E i hr hp _ hk hq => ?_
  obtain ⟨F, way⟩ := i
  obtain ⟨ok, hlen, hm⟩ := hp
  obtain ⟨a, b, rfl, ha, hb⟩ := k2 hk
  refine s_ret (K := kI (F.ll way : Nat)) ?_ (fun v H1 y k => hq v H1 y k)
  have e : ((F.ll way : Nat) : Int) = 1 + ((((way.drop 1).map fun c => (F.C c).r).sum : Nat) : Int) := by unfold Fab.ll; omega
  rw [e]
  refine j_op ok_add j_int (j_sumN B rfl ?_)
  rw [List.map_map]
  refine j_lcT (bs := way.drop 1) (enc := dI) rfl sc6.nd bk6_0 (fun s H C cl fp => pg_name sc6.nd (i := 2) rfl (Or.inl rfl)) (ji_tup (j_tail (j_var 1 rfl hb))).x ?_ (tg_name fun v => rfl) (fun H1 c σ2 x hb gd => ?_)
  · rw [List.length_drop]
    have : way.length ≤ 1000 := hlen
    omega
  · obtain ⟨v, hv, rfl⟩ := gd
    intro s0 H0 C cl fp
    exact j_c2 (j_ch (hm c (List.mem_of_mem_drop hb)) (j_n1 (j_var 0 rfl (Mn.mono x ha))) (j_var 2 rfl hv))
end
end K68

set_option Elab.async false
set_option linter.all false
set_option maxRecDepth 100000
set_option maxHeartbeats 1000000
/-! K68, text B4: is_way. -/
namespace K68
open PySem PySem.Spec L2
open PyProof.Rows hiding St
theorem ok_inN {M : Md} {X : Cx} {c : Nat} {cs : List Nat} : OpK M (compareOp .In) X (kI (c : Int)) (kD (dNs cs)) (kB (decide (c ∈ cs))) := by
  rw [← dec_castI]
  have := ok_inT (M := M) (X := X) (c := (c : Int)) (cs := castI cs)
  rw [← map_dI] at this
  exact this
theorem ok_notInN {M : Md} {X : Cx} {c : Nat} {cs : List Nat} : OpK M (compareOp .NotIn) X (kI (c : Int)) (kD (dNs cs)) (kB (!decide (c ∈ cs))) := by
  rw [← dec_castI]
  have := ok_notInT (M := M) (X := X) (c := (c : Int)) (cs := castI cs)
  rw [← map_dI] at this
  exact this
theorem at_Ns {l : List Nat} {i : Nat} (h : i < l.length) : atI (l.map dI) (i : Int) = some (dI (l.getD i 0)) := atI_map (getD_get h 0)
theorem at_head {l : List Nat} (h : l ≠ []) : atI (l.map dI) 0 = some (dI (l.headD 0)) := by
  cases l with
  | nil => exact absurd rfl h
  | cons x r => exact atI_nat (j := 0) rfl
theorem nb_f {b : Bool} (h : (!b) = false) : b = true := by cases b <;> simp_all
theorem nb_t {b : Bool} (h : (!b) = true) : b = false := by cases b <;> simp_all
def Fab.isW (F : Fab) (d : Nat) (w : List Nat) : Bool := decide w.Nodup && (decide (w.headD 0 ∈ F.op (F.C (w.headD 0)).u d) && (List.range (w.length - 1)).all fun k => decide (w.getD (k + 1) 0 ∈ F.op (F.C (w.getD k 0)).v d))
def dist (l : List Nat) : Nat := (dd (castI l)).length
theorem dist_lt (l : List Nat) : decide (((dist l : Nat) : Int) < (l.length : Int)) = !decide l.Nodup := by
  have h1 := dd_le (castI l)
  rw [castI_len] at h1
  by_cases h : l.Nodup
  · rw [decide_eq_true h]
    have e := dd_eq _ (castI_nodup.mpr h)
    unfold dist
    rw [e, castI_len]
    exact decide_eq_false (by omega)
  · rw [decide_eq_false h]
    refine decide_eq_true ?_
    have : (dd (castI l)).length ≠ (castI l).length := fun e => h (castI_nodup.mp (dd_full _ e))
    rw [castI_len] at this
    unfold dist
    omega
section
variable {M : Md} {X : Cx} {K : Kn} {a b c : Expr} {es : List Expr} {σ : L2.St} {H : Hp} {p p2 pos pos2 : Pos} {ds : List PyData} {d : PyData} {F : Fab}
theorem j_setN {l : List Nat} (B : Blt X.mg) (hc : X.calm = true) (hl : l.length ≤ 1000) (h : JK M X a σ H (kD (dNs l))) (hg : Gl X "set" := by rfl) (hs : starEach [a] X.env = (false, eval a X.env) :: starEach [] X.env := by rfl) : JK M X (.Call (.Name "set" p) [a] [] pos) σ H (kSet X.prog X.w (dist l)) := by
  have o := ck_setT (M := M) (X := X) (ns := castI l) hc (by rw [castI_len]; exact hl)
  rw [← map_dI] at o
  exact j_callTy o hg B.set bt_set (ja_cons h ja_nil hs) (by decide) (by decide) hs rfl
end
section
variable {P : Program} {w : World} {K : PySem.W.Frag} {mg : Str → Option Value} {base : Heap} {f : Addr} {fd : FuncData} {tbs : List Addr} {cT PT : Addr}
def spIw (tbs : List Addr) : Sp := spK tbs (ι := Fab × Nat × List Nat) (fun i => WayIn i.1 i.2.1 i.2.2 ∧ i.2.2.length ≤ 1000) (fun i => [kD i.1.d, kI (i.2.1 : Int), kD (dNs i.2.2)]) (fun i => kB (i.1.isW i.2.1 i.2.2))
theorem fnIw (B : Blt mg) (F : FunT K "is_way" "is_way" (topS 4) f fd cT) (hm : mg "is_way" = some (.ref f)) (TB : GxR.TabB base mg cT PT) (hPT : PT ∈ tbs) (fW : FnK P w K mg base "is_whole" ["value", "least", "most"] 1 spWhole) : FnK P w K mg base "is_way" A4 3 (spIw tbs) := by
  refine fn_kT F hm sc4 (fun _ => rfl) (fun _ _ _ _ _ _ us hl => match us, hl with | [_, _, _], _ => rfl) fun A outer s H vs Q E i hr hp ht hk hq => ?_
  obtain ⟨F, d, way⟩ := i
  obtain ⟨⟨ok, hd, h0, hm⟩, hlen⟩ := hp
  obtain ⟨a, b, c, rfl, ha, hb, hc⟩ := k3 hk
  have hlen : way.length ≤ 1000 := hlen
  have hd : d < F.n := hd
  have hm : ∀ c ∈ way, c < F.m := hm
  have h0 : way ≠ [] := h0
  have hpos : 0 < way.length := List.length_pos_iff.mpr h0
  have hh : way.headD 0 ∈ way := by cases way with | nil => exact absurd rfl h0 | cons x r => exact List.mem_cons_self
  have ehd : way.getD 0 0 = way.headD 0 := by cases way <;> rfl
  refine s_fab (M := M0) (i := 3) (j := 4) (l := 5) rfl sc4.nd rfl rfl rfl (j_var 0 rfl ha) fun v1 v2 v3 H1 x h1 h2 h3 => ?_
  have hb1 : kI (d : Int) H1 b := Mn.mono x hb
  have hc1 : kD (dNs way) H1 c := Mn.mono x hc
  have ht1 := tabs_up x ht
  have hq1 : RetK M0 (kB (F.isW d way)) H1 Q := fun v H' y k => hq v H' (x.trans y) k
  clear ha hb hc hk hq ht
  refine s_when (M := M0) (t := false) (JT.is (jt_or (jt_not (jt_val (j_isi (d := dNs way) (t := true) B (j_var 2 rfl hc1) rfl B.tuple bt_tuple))) fun _ => jt_cmp ok_eqI (j_lenNs B (j_var 2 rfl hc1)) j_int) (by rw [Bool.not_true, Bool.false_or]; exact decide_eq_false (by omega))) (fun e => absurd e Bool.false_ne_true) fun _ H2 x2 => ?_
  refine s_when (M := M0) (t := !decide way.Nodup) (JT.is (jt_or (t := !true) (jt_not (jt_val (JK.is (d := .bool (way.all fun c => decide ((0 : Int) ≤ (c : Int)) && decide ((c : Int) ≤ (F.m : Int) - 1)))
      (j_all1 (k := 1) (bs := way) (enc := dI) hr rfl B.all TB rfl ⟨bk4_0, rfl, by decide +kernel, rfl⟩ sc4.nd (x2.tab _ (ht1 _ hPT)) (ji_tup (j_var 2 rfl (Mn.mono x2 hc1))).x (tg_name fun v => rfl)
        (fun s0 H0 cl C code bi fp A' pn => pg_name sc4.nd (i := 6) rfl (Or.inl rfl)) (fun H3 c' σ2 x3 hmem gd => ?_) (hb := bt_all)) ?_))) fun _ => jt_cmp ok_lt (j_lenS B (j_setN B rfl hlen (j_var 2 rfl (Mn.mono x2 hc1)))) (j_lenNs B (j_var 2 rfl (Mn.mono x2 hc1)))) ?_) (fun e H3 x3 => ?_) fun e H3 x3 => ?_
  · obtain ⟨v, hv, rfl⟩ := gd
    intro s0 H0 cl C code bi fp A' pn hrm
    exact j_def ((c' : Int), 0, (F.m : Int) - 1) fW hrm trivial no_tabs (ja_cons (j_var 6 rfl hv) (ja_cons j_int (ja_cons (j_op ok_sub (j_lenCh B (j_var 4 rfl (Mn.mono (x2.trans x3) h2))) j_int) ja_nil)))
  · congr 1
    rw [List.all_eq_true]
    intro c' h'
    have := hm c' h'
    rw [Bool.and_eq_true, decide_eq_true_eq, decide_eq_true_eq]
    omega
  · rw [Bool.not_true, Bool.false_or]
    exact dist_lt way
  · refine s_ret j_bl fun v H4 x4 k => hq1 v H4 ((x2.trans x3).trans x4) ?_
    have e2 : F.isW d way = false := by
      unfold Fab.isW
      have : decide way.Nodup = false := nb_t e
      rw [this]; rfl
    rw [e2]
    exact k
  have hnd : decide way.Nodup = true := nb_f e
  have hc3 := Mn.mono (M := M0) (x2.trans x3) hc1
  have hb3 := Mn.mono (M := M0) (x2.trans x3) hb1
  have h1' := Mn.mono (M := M0) (x2.trans x3) h1
  have h2' := Mn.mono (M := M0) (x2.trans x3) h2
  have h3' := Mn.mono (M := M0) (x2.trans x3) h3
  have hhl : way.headD 0 < F.m := hm _ hh
  refine s_when (M := M0) (t := !decide (way.headD 0 ∈ F.op (F.C (way.headD 0)).u d)) (JT.is (jt_or (t := !true) (jt_not (jt_val (JK.is (d := .bool (decide ((0 : Int) ≤ (d : Int)) && decide ((d : Int) ≤ (F.n : Int) - 1)))
    (j_def ((d : Int), 0, (F.n : Int) - 1) (fW.mono (by decide : 1 ≤ 2)) hr trivial no_tabs (ja_cons (j_var 1 rfl hb3) (ja_cons j_int (ja_cons (j_op ok_sub (j_var 3 rfl h1') j_int) ja_nil)))) ?_))) fun _ =>
      jt_cmp ok_notInN (j_item (at_head h0) (j_var 2 rfl hc3) j_int) (j_op2 ok (C_u ok hhl) hd (j_var 5 rfl h3') (j_c0 (j_ch hhl (j_var 4 rfl h2') (j_item (at_head h0) (j_var 2 rfl hc3) j_int))) (j_var 1 rfl hb3))) ?_) (fun e H4 x4 => ?_) fun e H4 x4 => ?_
  · congr 1
    rw [Bool.and_eq_true, decide_eq_true_eq, decide_eq_true_eq]
    omega
  · rw [Bool.not_true, Bool.false_or]
  · refine s_ret j_bl fun v H5 x5 k => hq1 v H5 (((x2.trans x3).trans x4).trans x5) ?_
    have e2 : F.isW d way = false := by
      unfold Fab.isW
      have : decide (way.headD 0 ∈ F.op (F.C (way.headD 0)).u d) = false := nb_t e
      rw [this, Bool.false_and, Bool.and_false]
    rw [e2]
    exact k
  have hin : decide (way.headD 0 ∈ F.op (F.C (way.headD 0)).u d) = true := nb_f e
  have hb4 := Mn.mono (M := M0) x4 hb3
  have hc4 := Mn.mono (M := M0) x4 hc3
  have h2'' := Mn.mono (M := M0) x4 h2'
  have h3'' := Mn.mono (M := M0) x4 h3'
  have e3 : F.isW d way = (List.range (way.length - 1)).all fun k => decide (way.getD (k + 1) 0 ∈ F.op (F.C (way.getD k 0)).v d) := by
    unfold Fab.isW
    rw [hnd, hin, Bool.true_and, Bool.true_and]
  rw [e3] at hq1
  have el : (((way.length - 1 : Nat)) : Int) = (way.length : Int) - 1 := by omega
  refine s_ret (j_all1 (k := 1) (bs := List.range (way.length - 1)) (enc := dI) hr rfl B.all TB rfl ⟨bk4_1, rfl, by decide +kernel, rfl⟩ sc4.nd ((x2.trans (x3.trans x4)).tab _ (ht1 _ hPT)) (JI.x (ji_rng rfl B.range (by rw [el]; exact j_op ok_sub (j_lenNs B (j_var 2 rfl hc4)) j_int) (by omega))) (tg_name fun v => rfl)
        (fun s0 H0 cl C code bi fp A' pn => pg_name sc4.nd (i := 7) rfl (Or.inl rfl)) (fun H5 k' σ2 x5 hmem gd => ?_) (hb := bt_all)) fun v H5 x5 k => hq1 v H5 (((x2.trans x3).trans x4).trans x5) k
  obtain ⟨v, hv, rfl⟩ := gd
  intro s0 H0 cl C code bi fp A' pn hrm
  have hk' : k' < way.length - 1 := List.mem_range.mp hmem
  have hk1 : way.getD k' 0 < F.m := hm _ (List.mem_of_getElem? (getD_get (by omega) 0))
  have e1 : ((k' + 1 : Nat) : Int) = (k' : Int) + 1 := by omega
  exact j_cmp ok_inN (j_item (at_Ns (i := k' + 1) (by omega)) (j_var 2 rfl (Mn.mono x5 hc4)) (by rw [e1]; exact j_op ok_add (j_var 7 rfl hv) j_int)) (j_op2 ok (C_v ok hk1) hd (j_var 5 rfl (Mn.mono x5 h3'')) (j_c1 (j_ch hk1 (j_var 4 rfl (Mn.mono x5 h2'')) (j_item (at_Ns (i := k') (by omega)) (j_var 2 rfl (Mn.mono x5 hc4)) (j_var 7 rfl hv)))) (j_var 1 rfl (Mn.mono x5 hb4)))
end
end K68

set_option Elab.async false
set_option linter.all false
set_option maxRecDepth 100000
/-! K68, text M1: ways, how many. -/
namespace K68
theorem nodup_le : ∀ (a b : List Nat), a.Nodup → (∀ k, k ∈ a → k ∈ b) → a.length ≤ b.length := by
  intro a
  induction a with
  | nil => intro b _ _; exact Nat.zero_le _
  | cons x r ih =>
    intro b nd h
    rw [List.nodup_cons] at nd
    have hx : x ∈ b := h x List.mem_cons_self
    have h2 := ih (b.erase x) nd.2 fun k hk => (List.mem_erase_of_ne (fun e => nd.1 (by rw [← e]; exact hk))).mpr (h k (List.mem_cons_of_mem _ hk))
    rw [List.length_erase_of_mem hx] at h2
    have := List.length_pos_of_mem hx
    rw [List.length_cons]
    omega
/-- a way of distinct channels -/
structure Good (F : Fab) (w : List Nat) : Prop where
  ne : w ≠ []
  nd : w.Nodup
  lt : ∀ c ∈ w, c < F.m
theorem Good.len {F : Fab} {w : List Nat} (g : Good F w) : w.length ≤ F.m := by
  have := nodup_le w (List.range F.m) g.nd fun k hk => List.mem_range.mpr (g.lt k hk)
  rw [List.length_range] at this
  exact this
theorem Good.pos {F : Fab} {w : List Nat} (g : Good F w) : 0 < w.length := List.length_pos_iff.mpr g.ne
theorem kB_mem {F : Fab} {out : List Nat} {d : Nat} {w x : List Nat} : x ∈ F.kB out d w ↔ ∃ c, c ∈ F.wo d w ∧ c ∉ w ∧ c ∉ out ∧ x = w ++ [c] := by
  unfold Fab.kB
  simp only [List.mem_map, List.mem_filter, Bool.and_eq_true, decide_eq_true_eq]
  exact ⟨fun ⟨c, ⟨h1, h2, h3⟩, e⟩ => ⟨c, h1, h2, h3, e.symm⟩, fun ⟨c, h1, h2, h3, e⟩ => ⟨c, ⟨h1, h2, h3⟩, e.symm⟩⟩
theorem kA_mem {F : Fab} {out : List Nat} {d : Nat} {w x : List Nat} : x ∈ F.kA out d w ↔ ∃ c, c < F.m ∧ F.okA out d w c = true ∧ x = c :: w := by
  unfold Fab.kA
  simp only [List.mem_map, List.mem_filter, List.mem_range]
  exact ⟨fun ⟨c, ⟨h1, h2⟩, e⟩ => ⟨c, h1, h2, e.symm⟩, fun ⟨c, h1, h2, e⟩ => ⟨c, ⟨h1, h2⟩, e.symm⟩⟩
theorem okA_iff {F : Fab} {out : List Nat} {d : Nat} {w : List Nat} {c : Nat} : F.okA out d w c = true ↔ (F.C c).v = (F.C (w.headD 0)).u ∧ c ∉ w ∧ c ∉ out ∧ c ∈ F.op (F.C c).u d := by
  unfold Fab.okA
  simp only [Bool.and_eq_true, decide_eq_true_eq]
  exact ⟨fun ⟨⟨⟨a, b⟩, c⟩, d⟩ => ⟨a, b, c, d⟩, fun ⟨a, b, c, d⟩ => ⟨⟨⟨a, b⟩, c⟩, d⟩⟩
theorem kB_good {F : Fab} (ok : F.Ok) {out : List Nat} {d : Nat} {w x : List Nat} (g : Good F w) (h : x ∈ F.kB out d w) : Good F x ∧ x.length = w.length + 1 := by
  obtain ⟨c, h1, h2, h3, rfl⟩ := kB_mem.mp h
  refine ⟨⟨by simp, ?_, fun c' hc' => ?_⟩, by simp⟩
  · rw [List.nodup_append]
    refine ⟨g.nd, by simp, fun a ha b hb e => h2 ?_⟩
    rw [List.mem_singleton] at hb
    rw [← hb, ← e]
    exact ha
  · rcases List.mem_append.mp hc' with z | z
    · exact g.lt c' z
    · rw [List.mem_singleton] at z
      rw [z]
      exact (ok.op _ _ _ h1).1
theorem kA_good {F : Fab} {out : List Nat} {d : Nat} {w x : List Nat} (g : Good F w) (h : x ∈ F.kA out d w) : Good F x ∧ x.length = w.length + 1 := by
  obtain ⟨c, h0, h1, rfl⟩ := kA_mem.mp h
  obtain ⟨_, h2, _, _⟩ := okA_iff.mp h1
  refine ⟨⟨by simp, ?_, fun c' hc' => ?_⟩, by simp⟩
  · rw [List.nodup_cons]
    exact ⟨h2, g.nd⟩
  · rcases List.mem_cons.mp hc' with z | z
    · rw [z]; exact h0
    · exact g.lt c' z
theorem kB_len {F : Fab} (ok : F.Ok) {out : List Nat} {d : Nat} {w : List Nat} (g : Good F w) : (F.kB out d w).length ≤ F.m - w.length := by
  unfold Fab.kB
  rw [List.length_map]
  have h := nodup_le (((F.wo d w).filter fun c => decide (c ∉ w) && decide (c ∉ out)) ++ w) (List.range F.m) (by
    rw [List.nodup_append]
    refine ⟨(ok.nd _ _).filter _, g.nd, fun a ha b hb e => ?_⟩
    rw [List.mem_filter, Bool.and_eq_true, decide_eq_true_eq] at ha
    exact ha.2.1 (e ▸ hb)) fun k hk => by
    rw [List.mem_range]
    rcases List.mem_append.mp hk with z | z
    · exact (ok.op _ _ _ (List.mem_filter.mp z).1).1
    · exact g.lt k z
  rw [List.length_append, List.length_range] at h
  omega
theorem kA_len {F : Fab} {out : List Nat} {d : Nat} {w : List Nat} (g : Good F w) : (F.kA out d w).length ≤ F.m - w.length := by
  unfold Fab.kA
  rw [List.length_map]
  have h := nodup_le (((List.range F.m).filter (F.okA out d w)) ++ w) (List.range F.m) (by
    rw [List.nodup_append]
    refine ⟨List.nodup_range.filter _, g.nd, fun a ha b hb e => ?_⟩
    rw [List.mem_filter] at ha
    exact (okA_iff.mp ha.2).2.1 (e ▸ hb)) fun k hk => by
    rw [List.mem_range]
    rcases List.mem_append.mp hk with z | z
    · exact List.mem_range.mp (List.mem_filter.mp z).1
    · exact g.lt k z
  rw [List.length_append, List.length_range] at h
  omega
theorem flat_congr {α β : Type} {l : List α} {f g : α → List β} (h : ∀ x ∈ l, f x = g x) : l.flatMap f = l.flatMap g := by
  induction l with
  | nil => rfl
  | cons x r ih => rw [List.flatMap_cons, List.flatMap_cons, h x List.mem_cons_self, ih fun y hy => h y (List.mem_cons_of_mem _ hy)]
theorem lB_eq {F : Fab} (ok : F.Ok) {L : Nat} {out : List Nat} {d : Nat} {w : List Nat} (g : Good F w) : F.lB L out d w = if F.ll w ≤ L then w :: (F.kB out d w).reverse.flatMap (F.lB L out d) else [] := by
  have hl := g.len
  unfold Fab.lB
  have e : F.m + 1 - w.length = (F.m - w.length) + 1 := by omega
  rw [e]
  show (if F.ll w ≤ L then w :: (F.kB out d w).reverse.flatMap (F.tB L out d (F.m - w.length)) else []) = _
  rw [flat_congr fun x hx => ?_]
  have := (kB_good ok g (List.mem_reverse.mp hx)).2
  rw [this]
  congr 1
  omega
theorem lA_eq {F : Fab} {L : Nat} {out : List Nat} {d : Nat} {w : List Nat} (g : Good F w) : F.lA L out d w = if F.ll w ≤ L then w :: (F.kA out d w).reverse.flatMap (F.lA L out d) else [] := by
  have hl := g.len
  unfold Fab.lA
  have e : F.m + 1 - w.length = (F.m - w.length) + 1 := by omega
  rw [e]
  show (if F.ll w ≤ L then w :: (F.kA out d w).reverse.flatMap (F.tA L out d (F.m - w.length)) else []) = _
  rw [flat_congr fun x hx => ?_]
  have := (kA_good g (List.mem_reverse.mp hx)).2
  rw [this]
  congr 1
  omega
/-- how many -/
def nb : Nat → Nat
  | 0 => 0
  | k + 1 => 1 + k * nb k
theorem flat_le {α β : Type} {f : α → List β} {n : Nat} : ∀ {l : List α}, (∀ x ∈ l, (f x).length ≤ n) → (l.flatMap f).length ≤ l.length * n
  | [], _ => Nat.zero_le _
  | x :: r, h => by
    rw [List.flatMap_cons, List.length_append, List.length_cons, Nat.succ_mul]
    have h1 := h x List.mem_cons_self
    have h2 := flat_le (l := r) fun y hy => h y (List.mem_cons_of_mem _ hy)
    omega
theorem lB_len {F : Fab} (ok : F.Ok) {L : Nat} {out : List Nat} {d : Nat} : ∀ (k : Nat) (w : List Nat), Good F w → F.m + 1 - w.length = k → (F.lB L out d w).length ≤ nb k
  | 0, w, g, h => by have := g.len; omega
  | k + 1, w, g, h => by
    have hl := g.len
    rw [lB_eq ok g]
    by_cases c : F.ll w ≤ L
    · rw [if_pos c, List.length_cons]
      have h1 := flat_le (f := F.lB L out d) (n := nb k) (l := (F.kB out d w).reverse) fun x hx => by
        obtain ⟨g2, e2⟩ := kB_good ok g (List.mem_reverse.mp hx)
        exact lB_len ok k x g2 (by omega)
      rw [List.length_reverse] at h1
      have h2 : (F.kB out d w).length * nb k ≤ k * nb k := Nat.mul_le_mul_right _ (Nat.le_trans (kB_len ok g) (by omega))
      show _ ≤ 1 + k * nb k
      omega
    · rw [if_neg c]
      exact Nat.zero_le _
theorem lA_len {F : Fab} {L : Nat} {out : List Nat} {d : Nat} : ∀ (k : Nat) (w : List Nat), Good F w → F.m + 1 - w.length = k → (F.lA L out d w).length ≤ nb k
  | 0, w, g, h => by have := g.len; omega
  | k + 1, w, g, h => by
    have hl := g.len
    rw [lA_eq g]
    by_cases c : F.ll w ≤ L
    · rw [if_pos c, List.length_cons]
      have h1 := flat_le (f := F.lA L out d) (n := nb k) (l := (F.kA out d w).reverse) fun x hx => by
        obtain ⟨g2, e2⟩ := kA_good g (List.mem_reverse.mp hx)
        exact lA_len k x g2 (by omega)
      rw [List.length_reverse] at h1
      have h2 : (F.kA out d w).length * nb k ≤ k * nb k := Nat.mul_le_mul_right _ (Nat.le_trans (kA_len g) (by omega))
      show _ ≤ 1 + k * nb k
      omega
    · rw [if_neg c]
      exact Nat.zero_le _
theorem nb_le : ∀ k, k ≤ 6 → nb k ≤ 326 := by decide
theorem lB_le {F : Fab} (ok : F.Ok) {L : Nat} {out : List Nat} {d : Nat} {w : List Nat} (g : Good F w) : (F.lB L out d w).length ≤ 326 := by
  have := g.pos
  have := ok.m6
  exact Nat.le_trans (lB_len ok _ w g rfl) (nb_le _ (by omega))
theorem lA_le {F : Fab} (ok : F.Ok) {L : Nat} {out : List Nat} {d : Nat} {w : List Nat} (g : Good F w) : (F.lA L out d w).length ≤ 326 := by
  have := g.pos
  have := ok.m6
  exact Nat.le_trans (lA_len _ w g rfl) (nb_le _ (by omega))
/-- what is found is good -/
theorem lB_good {F : Fab} (ok : F.Ok) {L : Nat} {out : List Nat} {d : Nat} : ∀ (k : Nat) (w : List Nat), Good F w → F.m + 1 - w.length = k → ∀ x ∈ F.lB L out d w, Good F x
  | 0, w, g, h => by have := g.len; have := g.pos; omega
  | k + 1, w, g, h => by
    intro x hx
    rw [lB_eq ok g] at hx
    by_cases c : F.ll w ≤ L
    · rw [if_pos c] at hx
      rcases List.mem_cons.mp hx with z | z
      · rw [z]; exact g
      · obtain ⟨y, hy, hz⟩ := List.mem_flatMap.mp z
        obtain ⟨g2, e2⟩ := kB_good ok g (List.mem_reverse.mp hy)
        exact lB_good ok k y g2 (by omega) x hz
    · rw [if_neg c] at hx
      cases hx
theorem lA_good {F : Fab} {L : Nat} {out : List Nat} {d : Nat} : ∀ (k : Nat) (w : List Nat), Good F w → F.m + 1 - w.length = k → ∀ x ∈ F.lA L out d w, Good F x
  | 0, w, g, h => by have := g.len; have := g.pos; omega
  | k + 1, w, g, h => by
    intro x hx
    rw [lA_eq g] at hx
    by_cases c : F.ll w ≤ L
    · rw [if_pos c] at hx
      rcases List.mem_cons.mp hx with z | z
      · rw [z]; exact g
      · obtain ⟨y, hy, hz⟩ := List.mem_flatMap.mp z
        obtain ⟨g2, e2⟩ := kA_good g (List.mem_reverse.mp hy)
        exact lA_good k y g2 (by omega) x hz
    · rw [if_neg c] at hx
      cases hx
/-- the measure of a walk -/
def msr (wt : List (List Nat)) : Nat := (wt.map fun w => 7 ^ (7 - w.length)).sum
theorem msr_app (a b : List (List Nat)) : msr (a ++ b) = msr a + msr b := by unfold msr; rw [List.map_append, List.sum_append]
theorem msr_len : ∀ wt : List (List Nat), wt.length ≤ msr wt
  | [] => Nat.zero_le _
  | w :: r => by
    have h1 := msr_len r
    have e3 : msr (w :: r) = 7 ^ (7 - w.length) + msr r := by unfold msr; rw [List.map_cons, List.sum_cons]
    have hpos : 0 < 7 ^ (7 - w.length) := Nat.pow_pos (by decide)
    rw [e3, List.length_cons]
    omega
theorem msr_one {F : Fab} {w : List Nat} (g : Good F w) : msr [w] ≤ 117649 := by
  have hp := g.pos
  unfold msr
  rw [List.map_cons, List.sum_cons]
  have h : 7 ^ (7 - w.length) ≤ 7 ^ 6 := Nat.pow_le_pow_right (by decide) (by omega)
  show 7 ^ (7 - w.length) + 0 ≤ 117649
  omega
theorem msr_kids {F : Fab} (ok : F.Ok) {w : List Nat} (g : Good F w) {ks : List (List Nat)} (hl : ks.length ≤ F.m - w.length) (h : ∀ x ∈ ks, x.length = w.length + 1) : msr ks < msr [w] := by
  have e : ∀ ks : List (List Nat), (∀ x ∈ ks, x.length = w.length + 1) → msr ks = ks.length * 7 ^ (6 - w.length) := by
    intro ks
    induction ks with
    | nil => intro _; show 0 = 0 * _; omega
    | cons x r ih =>
      intro h
      have h1 := ih fun y hy => h y (List.mem_cons_of_mem _ hy)
      have h2 := h x List.mem_cons_self
      have e3 : msr (x :: r) = 7 ^ (7 - x.length) + msr r := by unfold msr; rw [List.map_cons, List.sum_cons]
      rw [e3, h1, h2, List.length_cons, Nat.succ_mul]
      have : 7 - (w.length + 1) = 6 - w.length := by omega
      rw [this]
      omega
  have hp := g.pos
  have hl2 := g.len
  have h6 := ok.m6
  rw [e ks h]
  have e2 : msr [w] = 7 * 7 ^ (6 - w.length) := by
    unfold msr
    rw [List.map_cons, List.sum_cons]
    show 7 ^ (7 - w.length) + 0 = _
    have : 7 - w.length = (6 - w.length) + 1 := by omega
    rw [this, Nat.pow_succ]
    omega
  rw [e2]
  have hpos : 0 < 7 ^ (6 - w.length) := Nat.pow_pos (by decide)
  exact Nat.mul_lt_mul_of_pos_right (by omega) hpos
end K68

set_option Elab.async false
set_option linter.all false
set_option maxRecDepth 100000
set_option maxHeartbeats 1000000
/-! K68, text B5: longer_behind, longer_ahead. -/
namespace K68
open PySem PySem.Spec L2
open PyProof.Rows hiding St
/-- a list of the def's own -/
def OL (H : Hp) (p : Addr) (xs : List V) (ds : List PyData) : Prop := H p = some (.lst xs) ∧ RpL H xs ds
section
variable {M : Md} {H H' : Hp} {p q : Addr} {xs ys : List V} {ds es : List PyData} {v : V} {d : PyData}
theorem OL.up (h : OL H p xs ds) (x : Xt M0 H H') : OL H' p xs ds := ⟨x.keep _ _ h.1 (nt_lst xs) id, RpL.tm x.tm _ h.2⟩
theorem OL.set (h : H p = some (.lst xs)) (r : RpL H ys es) : OL (upd H p (.lst ys)) p ys es := ⟨upd_same, RpL.tm (Tm.lst h) _ r⟩
theorem OL.app (h : OL H p xs ds) (r : Rp H v d) : OL (upd H p (.lst (xs ++ [v]))) p (xs ++ [v]) (ds ++ [d]) := OL.set h.1 (h.2.app (.cons r .nil))
theorem OL.ext (h : OL H p xs ds) (r : RpL H ys es) : OL (upd H p (.lst (xs ++ ys))) p (xs ++ ys) (ds ++ es) := OL.set h.1 (h.2.app r)
theorem OL.drop (h : OL H p xs ds) : OL (upd H p (.lst xs.dropLast)) p xs.dropLast ds.dropLast := OL.set h.1 h.2.dropLast
theorem OL.other {zs : List V} {o : HO} (h : OL H p xs ds) (hq : H q = some (.lst zs)) (hn : p ≠ q) : OL (upd H q o) p xs ds := ⟨by rw [upd_ne hn]; exact h.1, RpL.tm (Tm.lst hq) _ h.2⟩
theorem OL.kl (h : OL H p xs ds) : kL M0 ds H (.ref p) := ⟨p, xs, rfl, h.1, h.2, id⟩
theorem OL.len (h : OL H p xs ds) : xs.length = ds.length := h.2.length
end
/-- a dict whose keys are these -/
def kOut (out : List Nat) : Kn := fun H v => ∃ kvs, (∀ c : Nat, hasK kvs (c : Int) = decide (c ∈ out)) ∧ kK M0 kvs H v
instance (out : List Nat) : Mn M0 (kOut out) := ⟨fun e ⟨kvs, a, b⟩ => ⟨kvs, a, Mn.mono e b⟩⟩
structure LbI where
  F : Fab
  L : Nat
  out : List Nat
  d : Nat
  w : List Nat
def LbI.ok (i : LbI) : Prop := i.F.Ok ∧ i.d < i.F.n ∧ Good i.F i.w
def LbI.ks (i : LbI) : List Kn := [kD i.F.d, kI (i.L : Int), kOut i.out, kI (i.d : Int), kD (dNs i.w)]
theorem shpNs (l : List Nat) : (dNs l).canLay0 = true ∧ (dNs l).depth ≤ 20 := by
  have h : ∀ l : List Nat, PyData.canLayAll0 (l.map dI) = true ∧ PyData.depthAll (l.map dI) ≤ 1 := by
    intro l
    induction l with
    | nil => exact ⟨rfl, Nat.zero_le _⟩
    | cons x r ih =>
      refine ⟨?_, ?_⟩
      · show (PyData.canLay0 (dI x) && PyData.canLayAll0 (r.map dI)) = true
        rw [ih.1]; rfl
      · have e : PyData.depthAll ((x :: r).map dI) = max (dI x).depth (PyData.depthAll (r.map dI)) := by
          rw [List.map_cons]; simp only [PyData.depthAll]
        have e1 : (dI x).depth ≤ 1 := by unfold dI; simp only [PyData.depth]; omega
        rw [e]
        have := ih.2
        omega
  refine ⟨?_, ?_⟩
  · have := (h l).1
    show PyData.canLay0 (.tuple (l.map dI)) = true
    simpa [PyData.canLay0] using this
  · have := (h l).2
    show PyData.depth (.tuple (l.map dI)) ≤ 20
    simp only [PyData.depth]
    omega
theorem shpWays (ws : List (List Nat)) : ∀ d ∈ ws.map dNs, d.canLay0 = true ∧ d.depth ≤ 20 := fun d h => by
  obtain ⟨w, _, rfl⟩ := List.mem_map.mp h
  exact shpNs w
section
variable {P : Program} {w : World} {K : PySem.W.Frag} {mg : Str → Option Value} {base : Heap} {f : Addr} {fd : FuncData} {tbs : List Addr} {cT PT : Addr}
def spLb : Sp := spL [] LbI.ok LbI.ks (fun i => (i.F.lB i.L i.out i.d i.w).map dNs)
theorem fnLb (B : Blt mg) (F : Fun K "longer_behind" "longer_behind" (topS 7) f fd) (hm : mg "longer_behind" = some (.ref f)) (fL : FnK P w K mg base "least_length" A6 1 spLl) (fO : FnK P w K mg base "way_options" ["fabric", "d", "way"] 1 spWo) : FnK P w K mg base "longer_behind" A7 2 spLb := by
  refine fn_l F hm sc7 (fun _ => rfl) (fun _ _ _ _ _ _ us hl => match us, hl with | [_, _, _, _, _], _ => rfl) fun cdv A outer s H vs Q E i hr hp _ hk hq => ?_
  obtain ⟨F, L, out, d, way⟩ := i
  have ok : F.Ok := hp.1
  have hd : d < F.n := hp.2.1
  have hg : Good F way := hp.2.2
  have hq : RetL M0 ((F.lB L out d way).map dNs) H Q := hq
  obtain ⟨a, b, c, e, g, rfl, ha, hb, ⟨kvs, hkv, hc⟩, he, hgw⟩ := k5 hk
  have hu := hu_of hr
  have hu64 := hr.units
  refine s_asgL (M := M0) 5 sc7.nd j_lst0 fun pf xf H1 n1 x1 e1 r1 => ?_
  refine s_asgL (M := M0) 6 sc7.nd (j_lst1 (j_var 4 rfl (Mn.mono x1 hgw))) fun pw xw H2 n2 x2 e2 r2 => ?_
  have hne : pf ≠ pw := fun z => by rw [z, n2] at e1; cases e1
  refine s_while (M := M0) (fun m σ' H' => ∃ fs wt xs ws o, σ' = [some a, some b, some c, some e, some g, some (.ref pf), some (.ref pw), o, none] ∧ OL H' pf xs (fs.map dNs) ∧ OL H' pw ws (wt.map dNs) ∧ Xt M0 H H' ∧
    fs ++ wt.reverse.flatMap (F.lB L out d) = F.lB L out d way ∧ (∀ x ∈ wt, Good F x) ∧ msr wt ≤ 117649 ∧ m = msr wt) (msr [way]) ⟨[], [way], xf, xw, none, rfl, ⟨x2.keep _ _ e1 (nt_lst _) id, RpL.tm x2.tm _ r1⟩, ⟨e2, r2⟩, x1.trans x2, by simp, fun x hx => by rw [List.mem_singleton.mp hx]; exact hg, msr_one hg, rfl⟩ ?_
  rintro m σ' H' ⟨fs, wt, xs, ws, o, rfl, of, ow, x, inv, good, hms, rfl⟩
  refine ⟨_, jt_cmp (ok_neL0 (shpWays wt) hu64) (j_var 6 rfl ow.kl) (j_lst0.k), fun hb3 H3 x3 => ?_, fun hb3 H3 x3 => ?_⟩
  · have hwt : wt ≠ [] := fun z => by rw [z] at hb3; simp at hb3
    obtain ⟨wt0, h, rfl⟩ : ∃ wt0 h, wt = wt0 ++ [h] := ⟨wt.dropLast, wt.getLast hwt, (List.dropLast_concat_getLast hwt).symm⟩
    have gh : Good F h := good h (by simp)
    have of3 := of.up x3
    have ow3 := ow.up x3
    obtain ⟨v, hv1, hv2⟩ := ow3.2.get (i := wt0.length) (d := dNs h) (by simp)
    have hl : ws.length - 1 = wt0.length := by rw [ow3.len]; simp
    refine s_pop 6 7 sc7.nd rfl ow3.1 (by rw [hl]; exact hv1) ?_
    have hn' : pw ≠ pf := hne.symm
    have ow4 : OL (upd H3 pw (.lst ws.dropLast)) pw ws.dropLast (wt0.map dNs) := by
      have := ow3.drop
      rw [List.map_append, List.map_cons, List.map_nil, List.dropLast_concat] at this
      exact this
    have of4 := of3.other (o := .lst ws.dropLast) ow3.1 hne
    have x4 : Xt M0 H (upd H3 pw (.lst ws.dropLast)) := (x.trans x3).mut (x1.free pw n2)
    have hv4 : Rp (upd H3 pw (.lst ws.dropLast)) v (dNs h) := Rp.tm (Tm.lst ow3.1) _ hv2
    have inv' : fs ++ F.lB L out d h ++ wt0.reverse.flatMap (F.lB L out d) = F.lB L out d way := by
      rw [← inv, List.reverse_append, List.flatMap_append]
      simp
    have hlen : (fs ++ F.lB L out d h).length ≤ 326 := by
      have h1 := lB_le (L := L) (out := out) (d := d) ok hg
      rw [← inv', List.length_append] at h1
      omega
    rw [lB_eq ok gh] at inv' hlen
    have hll : h.length ≤ 1000 := by have := gh.len; have := ok.m6; omega
    have goodK : ∀ y ∈ F.kB out d h, Good F y := fun y hy => (kB_good ok gh hy).1
    have good0 : ∀ y ∈ wt0, Good F y := fun y hy => good y (by simp [hy])
    refine s_when (M := M0) (t := decide ((F.ll h : Int) ≤ (L : Int))) (jt_cmp ok_le (j_def (F, h) fL hr ⟨ok, hll, gh.lt⟩ no_tabs (ja_cons (j_f0 (j_var 0 rfl (Mn.mono x4 ha))) (ja_cons (j_var 7 rfl hv4) ja_nil))) (j_var 1 rfl (Mn.mono x4 hb))) (fun ht H5 x5 => ?_) fun ht H5 x5 => ?_
    · have hle : F.ll h ≤ L := by have := of_decide_eq_true ht; omega
      rw [if_pos hle] at inv' hlen
      have hlen2 : fs.length ≤ 326 := by rw [List.length_append] at hlen; omega
      refine s_append (M := M0) 5 (K := kD (dNs h)) rfl (of4.up x5).1 (j_var 7 rfl (Mn.mono x5 hv4)) (by rw [(of4.up x5).len, List.length_map]; omega) id fun v6 H6 x6 kv e6 => ?_
      have of6 := (of4.up x5).up x6
      have ow6 := (ow4.up x5).up x6
      have of7 := of6.app kv
      have ow7 := ow6.other (o := .lst (xs ++ [v6])) of6.1 hn'
      have x7 : Xt M0 H (upd H6 pf (.lst (xs ++ [v6]))) := (x4.trans (x5.trans x6)).mut n1
      have hv7 : Rp (upd H6 pf (.lst (xs ++ [v6]))) v (dNs h) := Rp.tm (Tm.lst of6.1) _ (Mn.mono (M := M0) (K := kD (dNs h)) (x5.trans x6) hv4)
      refine s_extend (M := M0) (ds := (F.kB out d h).map dNs) 6 rfl ow7.1 ?_ ?_ id fun ys H8 x8 r8 e8 => ?_
      · refine JL.k ?_
        unfold Fab.kB
        rw [List.map_map]
        refine j_lc (bs := F.wo d h) (enc := dI) rfl sc7.nd bk7_0 (fun s H C cl fp => pg_name sc7.nd (i := 8) rfl (Or.inl rfl)) (JI.x (ji_tup (j_def (F, d, h) fO hr ⟨ok, hd, gh.ne, gh.lt⟩ no_tabs (ja_cons (j_var 0 rfl (Mn.mono x7 ha)) (ja_cons (j_var 3 rfl (Mn.mono x7 he)) (ja_cons (j_var 7 rfl hv7) ja_nil)))))) ?_ (tg_name fun v => rfl) trivial (fun H9 c' σ2 x9 hm gd => jbts_one ?_) (fun H9 c' σ2 x9 hm gd _ => ?_)
        · have := nodup_le _ (List.range F.m) (ok.nd (F.C (h.getLastD 0)).v d) fun k hk => List.mem_range.mpr (ok.op _ _ _ hk).1
          rw [List.length_range] at this
          have := ok.m6
          show (F.op (F.C (h.getLastD 0)).v d).length ≤ 1000000
          omega
        · obtain ⟨v9, hv9, rfl⟩ := gd
          intro s0 H0 C cl fp
          have hc9 : kK M0 kvs H9 c := Mn.mono (x7.trans x9) hc
          exact JT.is (jt_and (jt_cmp ok_notInN (j_var 8 rfl hv9) (j_var 7 rfl (Mn.mono x9 hv7))) fun _ => jt_cmp (ok_notInD hu) (j_var 8 rfl hv9) (j_var 2 rfl hc9)) (by rw [hkv, decide_not, decide_not])
        · obtain ⟨v9, hv9, rfl⟩ := gd
          intro s0 H0 C cl fp
          have e9 : dNs (h ++ [c']) = .tuple (h.map dI ++ [dI c']) := by unfold dNs; rw [List.map_append]; rfl
          show JK M0 _ _ _ _ (kD (dNs (h ++ [c'])))
          rw [e9]
          exact j_op (ok_cat (by rw [List.length_map]; show h.length + 1 ≤ 1000000; omega)) (j_var 7 rfl (Mn.mono (K := kD (dNs h)) x9 hv7)) (j_tup1 (j_var 8 rfl hv9))
      · have h1 := ow7.len
        rw [List.length_map] at h1
        have h2 := kB_len (out := out) (d := d) ok gh
        have h6 := ok.m6
        have h3 := msr_len (wt0 ++ [h])
        rw [List.length_append] at h3
        rw [h1, List.length_map]
        omega
      · have of8 := of7.up x8
        have ow8 := ow7.up x8
        have hm1 := msr_app wt0 [h]
        have hm2 := msr_kids ok gh (kB_len (out := out) (d := d) ok gh) fun y hy => (kB_good ok gh hy).2
        have hm3 := msr_app wt0 (F.kB out d h)
        refine s_nil (s_nil ⟨msr (wt0 ++ F.kB out d h), by omega, fs ++ [h], wt0 ++ F.kB out d h, xs ++ [v6], ws.dropLast ++ ys, some v, rfl, ?_, ?_, (x7.trans x8).mut (x1.free pw n2), ?_, fun y hy => ?_, by omega, rfl⟩)
        · have := of8.other (o := .lst (ws.dropLast ++ ys)) ow8.1 hne
          rw [List.map_append, List.map_cons, List.map_nil]
          exact this
        · have := ow8.ext r8
          rw [List.map_append]
          exact this
        · rw [← inv', List.reverse_append, List.flatMap_append, List.append_assoc, List.append_assoc]
          simp
        · rcases List.mem_append.mp hy with z | z
          · exact good0 y z
          · exact goodK y z
    · have hle : ¬ F.ll h ≤ L := by have := of_decide_eq_false ht; omega
      rw [if_neg hle] at inv'
      have hm1 := msr_app wt0 [h]
      have hpos : 0 < msr [h] := by
        unfold msr
        rw [List.map_cons, List.sum_cons]
        have : 0 < 7 ^ (7 - h.length) := Nat.pow_pos (by decide)
        omega
      refine s_nil ⟨msr wt0, by omega, fs, wt0, xs, ws.dropLast, some v, rfl, of4.up x5, ow4.up x5, x4.trans x5, by rw [← inv']; simp, good0, by omega, rfl⟩
  · have hwt : wt = [] := by
      have := nb_f hb3
      exact List.map_eq_nil_iff.mp (of_decide_eq_true this)
    subst hwt
    have inv' : fs = F.lB L out d way := by rw [← inv]; simp
    subst inv'
    refine s_ret (M := M0) (K := kE (.ref pf)) (j_var 5 rfl rfl) fun v H4 x4 k => ?_
    have k : v = .ref pf := k
    subst k
    have o4 := (of.up x3).up x4
    exact hq pf xs H4 n1 ((x.trans x3).trans x4) o4.1 o4.2
end
end K68

set_option Elab.async false
set_option linter.all false
set_option maxRecDepth 100000
set_option maxHeartbeats 1000000
/-! K68, text B6: longer_ahead. -/
namespace K68
open PySem PySem.Spec L2
open PyProof.Rows hiding St
theorem decN {a b : Nat} : decide ((a : Int) = (b : Int)) = decide (a = b) := decide_eq_decide.mpr ⟨fun h => by omega, fun h => by omega⟩
section
variable {P : Program} {w : World} {K : PySem.W.Frag} {mg : Str → Option Value} {base : Heap} {f : Addr} {fd : FuncData} {tbs : List Addr} {cT PT : Addr}
def spLa : Sp := spL [] LbI.ok LbI.ks (fun i => (i.F.lA i.L i.out i.d i.w).map dNs)
theorem fnLa (B : Blt mg) (F : Fun K "longer_ahead" "longer_ahead" (topS 8) f fd) (hm : mg "longer_ahead" = some (.ref f)) (fL : FnK P w K mg base "least_length" A6 1 spLl) : FnK P w K mg base "longer_ahead" A8 2 spLa := by
  refine fn_l F hm sc8 (fun _ => rfl) (fun _ _ _ _ _ _ us hl => match us, hl with | [_, _, _, _, _], _ => rfl) fun cdv A outer s H vs Q E i hr hp _ hk hq => ?_
  obtain ⟨F, L, out, d, way⟩ := i
  have ok : F.Ok := hp.1
  have hd : d < F.n := hp.2.1
  have hg : Good F way := hp.2.2
  have hq : RetL M0 ((F.lA L out d way).map dNs) H Q := hq
  obtain ⟨a, b, c, e, g, rfl, ha, hb, ⟨kvs, hkv, hc⟩, he, hgw⟩ := k5 hk
  have hu := hu_of hr
  have hu64 := hr.units
  refine s_fab (M := M0) (i := 5) (j := 6) (l := 7) rfl sc8.nd rfl rfl rfl (j_var 0 rfl ha) fun w1 w2 w3 H0 x0 h1 h2 h3 => ?_
  refine s_asgL (M := M0) 8 sc8.nd j_lst0 fun pf xf H1 n1 x1 e1 r1 => ?_
  refine s_asgL (M := M0) 9 sc8.nd (j_lst1 (j_var 4 rfl (Mn.mono (x0.trans x1) hgw))) fun pw xw H2 n2 x2 e2 r2 => ?_
  have hne : pf ≠ pw := fun z => by rw [z, n2] at e1; cases e1
  have nf : H pf = none := x0.free _ n1
  have nw : H pw = none := x0.free _ (x1.free _ n2)
  have nf0 : H0 pf = none := n1
  have nw0 : H0 pw = none := x1.free _ n2
  refine s_while (M := M0) (fun m σ' H' => ∃ fs wt xs ws o1 o2 o3, σ' = [some a, some b, some c, some e, some g, some w1, some w2, some w3, some (.ref pf), some (.ref pw), o1, o2, o3] ∧ OL H' pf xs (fs.map dNs) ∧ OL H' pw ws (wt.map dNs) ∧ Xt M0 H0 H' ∧
    fs ++ wt.reverse.flatMap (F.lA L out d) = F.lA L out d way ∧ (∀ x ∈ wt, Good F x) ∧ msr wt ≤ 117649 ∧ m = msr wt) (msr [way]) ⟨[], [way], xf, xw, none, none, none, rfl, ⟨x2.keep _ _ e1 (nt_lst _) id, RpL.tm x2.tm _ r1⟩, ⟨e2, r2⟩, x1.trans x2, by simp, fun x hx => by rw [List.mem_singleton.mp hx]; exact hg, msr_one hg, rfl⟩ ?_
  rintro m σ' H' ⟨fs, wt, xs, ws, o1, o2, o3, rfl, of, ow, x, inv, good, hms, rfl⟩
  refine ⟨_, jt_cmp (ok_neL0 (shpWays wt) hu64) (j_var 9 rfl ow.kl) (j_lst0.k), fun hb3 H3 x3 => ?_, fun hb3 H3 x3 => ?_⟩
  · have hwt : wt ≠ [] := fun z => by rw [z] at hb3; simp at hb3
    obtain ⟨wt0, h, rfl⟩ : ∃ wt0 h, wt = wt0 ++ [h] := ⟨wt.dropLast, wt.getLast hwt, (List.dropLast_concat_getLast hwt).symm⟩
    have gh : Good F h := good h (by simp)
    have of3 := of.up x3
    have ow3 := ow.up x3
    obtain ⟨v, hv1, hv2⟩ := ow3.2.get (i := wt0.length) (d := dNs h) (by simp)
    have hl : ws.length - 1 = wt0.length := by rw [ow3.len]; simp
    refine s_pop 9 10 sc8.nd rfl ow3.1 (by rw [hl]; exact hv1) ?_
    have hn' : pw ≠ pf := hne.symm
    have ow4 : OL (upd H3 pw (.lst ws.dropLast)) pw ws.dropLast (wt0.map dNs) := by
      have := ow3.drop
      rw [List.map_append, List.map_cons, List.map_nil, List.dropLast_concat] at this
      exact this
    have of4 := of3.other (o := .lst ws.dropLast) ow3.1 hne
    have x4 : Xt M0 H0 (upd H3 pw (.lst ws.dropLast)) := (x.trans x3).mut nw0
    have hv4 : Rp (upd H3 pw (.lst ws.dropLast)) v (dNs h) := Rp.tm (Tm.lst ow3.1) _ hv2
    have inv' : fs ++ F.lA L out d h ++ wt0.reverse.flatMap (F.lA L out d) = F.lA L out d way := by
      rw [← inv, List.reverse_append, List.flatMap_append]
      simp
    have hlen : (fs ++ F.lA L out d h).length ≤ 326 := by
      have h1 := lA_le (L := L) (out := out) (d := d) ok hg
      rw [← inv', List.length_append] at h1
      omega
    rw [lA_eq gh] at inv' hlen
    have hll : h.length ≤ 1000 := by have := gh.len; have := ok.m6; omega
    have goodK : ∀ y ∈ F.kA out d h, Good F y := fun y hy => (kA_good gh hy).1
    have good0 : ∀ y ∈ wt0, Good F y := fun y hy => good y (by simp [hy])
    have hhd : h.headD 0 < F.m := gh.lt _ (by have := gh.ne; cases h with | nil => exact absurd rfl this | cons x r => exact List.mem_cons_self)
    have hm1 := msr_app wt0 [h]
    have hpos : 0 < msr [h] := by
      unfold msr
      rw [List.map_cons, List.sum_cons]
      have : 0 < 7 ^ (7 - h.length) := Nat.pow_pos (by decide)
      omega
    refine s_when (M := M0) (t := decide ((L : Int) < (F.ll h : Int))) (jt_cmp ok_gt (j_def (F, h) fL hr ⟨ok, hll, gh.lt⟩ no_tabs (ja_cons (j_f0 (j_var 0 rfl (Mn.mono (x0.trans x4) ha))) (ja_cons (j_var 10 rfl hv4) ja_nil))) (j_var 1 rfl (Mn.mono (x0.trans x4) hb))) (fun ht H5 x5 => ?_) fun ht H5 x5 => ?_
    · have hle : ¬ F.ll h ≤ L := by have := of_decide_eq_true ht; omega
      rw [if_neg hle] at inv'
      exact s_cont ⟨msr wt0, by omega, fs, wt0, xs, ws.dropLast, some v, o2, o3, rfl, of4.up x5, ow4.up x5, x4.trans x5, by rw [← inv']; simp, good0, by omega, rfl⟩
    · have hle : F.ll h ≤ L := by have := of_decide_eq_false ht; omega
      rw [if_pos hle] at inv' hlen
      have hlen2 : fs.length ≤ 326 := by rw [List.length_append] at hlen; omega
      refine s_append (M := M0) 8 (K := kD (dNs h)) rfl (of4.up x5).1 (j_var 10 rfl (Mn.mono x5 hv4)) (by rw [(of4.up x5).len, List.length_map]; omega) id fun v6 H6 x6 kv e6 => ?_
      have of6 := (of4.up x5).up x6
      have ow6 := (ow4.up x5).up x6
      have of7 := of6.app kv
      have ow7 := ow6.other (o := .lst (xs ++ [v6])) of6.1 hn'
      have x7 : Xt M0 H0 (upd H6 pf (.lst (xs ++ [v6]))) := (x4.trans (x5.trans x6)).mut nf0
      have hv7 : Rp (upd H6 pf (.lst (xs ++ [v6]))) v (dNs h) := Rp.tm (Tm.lst of6.1) _ (Mn.mono (M := M0) (K := kD (dNs h)) (x5.trans x6) hv4)
      refine s_asg (M := M0) 11 sc8.nd (j_c0 (j_ch hhd (j_var 6 rfl (Mn.mono x7 h2)) (j_item (at_head gh.ne) (j_var 10 rfl hv7) j_int))) fun v8 H8 x8 k8 => ?_
      refine s_for (M := M0) (pg_name (i := 12) sc8.nd rfl (Or.inl rfl)) (ji_rng (n := F.m) rfl B.range (j_lenCh B (j_var 6 rfl (Mn.mono (x7.trans x8) h2))) (by have := ok.m6; omega)) rfl fun H9 x9 => ?_
      have of9 := (of7.up x8).up x9
      have ow9 := (ow7.up x8).up x9
      have x9' : Xt M0 H0 H9 := (x7.trans x8).trans x9
      refine ⟨fun j σ' H' => ∃ ws' o3, σ' = [some a, some b, some c, some e, some g, some w1, some w2, some w3, some (.ref pf), some (.ref pw), some v, some v8, o3] ∧
        OL H' pf (xs ++ [v6]) ((fs ++ [h]).map dNs) ∧ OL H' pw ws' ((wt0 ++ (((List.range j).filter (F.okA out d h)).map fun c => c :: h)).map dNs) ∧ Xt M0 H0 H' ∧ Tm H9 H', ?_, fun j σ' H' ⟨_, _, _, _, _, _, t⟩ => t, ?_, ?_⟩
      · refine ⟨ws.dropLast, o3, rfl, ?_, ?_, x9', Tm.refl _⟩
        · rw [List.map_append, List.map_cons, List.map_nil]; exact of9
        · show OL H9 pw ws.dropLast ((wt0 ++ []).map dNs)
          rw [List.append_nil]; exact ow9
      · rintro j dd v10 σ' H10 hj rv ⟨ws', o4, rfl, of10, ow10, x10, t10⟩
        have hj' : j < F.m := by
          have := (List.getElem?_eq_some_iff.mp hj).1
          rw [rangeD_len] at this; exact this
        rw [rangeD_at hj'] at hj
        cases hj
        show WSs _ _ _ _ _
        have hv10 : kD (dNs h) H10 v := Rp.tm (t10) _ (Rp.tm (x8.trans x9).tm _ hv7)
        have h2' : kD (.tuple (F.ch.map dCh)) H10 w2 := Mn.mono x10 h2
        have h3' : kD F.dTb H10 w3 := Mn.mono x10 h3
        have hc' : kK M0 kvs H10 c := Mn.mono (x0.trans x10) hc
        have he' : kI (d : Int) H10 e := Mn.mono (x0.trans x10) he
        have k8' : kI ((F.C (h.headD 0)).u : Int) H10 v8 := by have := kI_eq k8; rw [this]; exact kI_of
        have ek : ((List.range (j + 1)).filter (F.okA out d h)).map (fun c => c :: h) = ((List.range j).filter (F.okA out d h)).map (fun c => c :: h) ++ (if F.okA out d h j = true then [j :: h] else []) := by
          rw [List.range_succ, List.filter_append, List.map_append]
          congr 1
          by_cases q : F.okA out d h j = true
          · simp [q]
          · simp [q]
        refine s_when (M := M0) (t := F.okA out d h j) (JT.is (jw_jt (jw_and (jt_cmp ok_eqI (j_c1 (j_ch hj' (j_var 6 rfl h2') (j_var 12 rfl rv))) (j_var 11 rfl k8')) fun _ => jw_and (jt_cmp ok_notInN (j_var 12 rfl rv) (j_var 10 rfl hv10)) fun _ => jw_and (jt_cmp (ok_notInD hu) (j_var 12 rfl rv) (j_var 2 rfl hc')) fun _ =>
          jw_and1 (jt_cmp ok_inN (j_var 12 rfl rv) (j_op2 ok (C_u ok hj') hd (j_var 7 rfl h3') (j_c0 (j_ch hj' (j_var 6 rfl h2') (j_var 12 rfl rv))) (j_var 3 rfl he'))))) ?_) (fun q H11 x11 => ?_) fun q H11 x11 => ?_
        · unfold Fab.okA
          rw [hkv, decN, decide_not, decide_not, Bool.and_assoc, Bool.and_assoc]
        · have ow11 := ow10.up x11
          have hlw := ow11.len
          refine s_append (M := M0) 9 (K := kD (dNs (j :: h))) rfl ow11.1 ?_ ?_ id fun v12 H12 x12 kv e12 => s_nil (s_nil ?_)
          · have e9 : dNs (j :: h) = .tuple ([dI j] ++ h.map dI) := rfl
            rw [e9]
            exact j_op (ok_cat (by rw [List.length_map]; show 1 + h.length ≤ 1000000; omega)) (j_tup1 (j_var 12 rfl (Mn.mono (M := M0) (K := kI (j : Int)) x11 rv))) (j_var 10 rfl (Mn.mono (M := M0) (K := kD (dNs h)) x11 hv10))
          · have h3 := msr_len (wt0 ++ [h])
            rw [List.length_append] at h3
            have h4 := List.length_filter_le (F.okA out d h) (List.range j)
            rw [List.length_range] at h4
            have h6 := ok.m6
            rw [hlw, List.length_map, List.length_append, List.length_map]
            omega
          · have ow12 := ow11.up x12
            refine ⟨ws' ++ [v12], some v10, rfl, ?_, ?_, ((x10.trans x11).trans x12).mut nw0, (t10.trans (x11.trans x12).tm).trans (Tm.lst ow12.1)⟩
            · exact ((of10.up x11).up x12).other ow12.1 hne
            · rw [ek, if_pos q, ← List.append_assoc, List.map_append]
              exact ow12.app kv
        · refine s_nil ⟨ws', some v10, rfl, of10.up x11, ?_, x10.trans x11, t10.trans x11.tm⟩
          rw [ek, if_neg (by rw [q]; exact Bool.false_ne_true), List.append_nil]
          exact ow10.up x11
      · rintro σ' H10 ⟨ws', o4, rfl, of10, ow10, x10, t10⟩
        rw [rangeD_len] at ow10
        have hm2 := msr_kids ok gh (kA_len (out := out) (d := d) gh) fun y hy => (kA_good gh hy).2
        have hm3 := msr_app wt0 (F.kA out d h)
        refine s_nil ⟨msr (wt0 ++ F.kA out d h), by omega, fs ++ [h], wt0 ++ F.kA out d h, xs ++ [v6], ws', some v, some v8, o4, rfl, of10, ow10, x10, ?_, fun y hy => ?_, by omega, rfl⟩
        · rw [← inv', List.reverse_append, List.flatMap_append, List.append_assoc, List.append_assoc]
          simp
        · rcases List.mem_append.mp hy with z | z
          · exact good0 y z
          · exact goodK y z
  · have hwt : wt = [] := by
      have := nb_f hb3
      exact List.map_eq_nil_iff.mp (of_decide_eq_true this)
    subst hwt
    have inv' : fs = F.lA L out d way := by rw [← inv]; simp
    subst inv'
    refine s_ret (M := M0) (K := kE (.ref pf)) (j_var 8 rfl rfl) fun v H4 x4 k => ?_
    have k : v = .ref pf := k
    subst k
    have o4 := (of.up x3).up x4
    exact hq pf xs H4 nf (x0.trans ((x.trans x3).trans x4)) o4.1 o4.2
end
end K68

set_option Elab.async false
set_option linter.all false
set_option maxRecDepth 100000
set_option maxHeartbeats 1000000
/-! K68, text B7: a new list walked; ways_through. -/
namespace K68
open PySem PySem.Spec L2
open PyProof.Rows hiding St
section
variable {M : Md} {X : Cx} {a b c : Expr} {σ : L2.St} {H H' : Hp} {ds : List PyData} {D : Ends} {rest body : List Stmt} {pos : Pos}
/-- for x in a new list -/
theorem s_forN {tg it : Expr} {g : TG} (hg : PG X tg g) (h : JL M X it σ H ds) (hc : X.calm = true) (hi : M.i H)
    (k : ∀ p xs H1, H p = none → Xt M H H1 → H1 p = some (.lst xs) → RpL H1 xs ds → ∃ Pv : Nat → L2.St → Hp → Prop, Pv 0 σ H1 ∧ (∀ j σ' H', Pv j σ' H' → Tm H1 H' ∧ H' p = some (.lst xs)) ∧
      (∀ j d v σ' H', ds[j]? = some d → Rp H' v d → Pv j σ' H' → g v σ' H' fun σ2 H2 => WSs X body { D with nx := Pv (j + 1), ct := Pv (j + 1), bk := WSs X rest D } σ2 H2) ∧ ∀ σ' H', Pv ds.length σ' H' → WSs X rest D σ' H')
    (hp : PassesOwn (model X.prog X.w) X.A X.env X.xe := by exact PassesOwn.never) (hs : ∀ x, foldedSetIterable it X.env x = pure x := by intro _; rfl) : WSs X (.For tg it body [] pos :: rest) D σ H := by
  refine s_cons (ws_of (ps_for hp hc (pi_list pe_we) hg pss_wss hs) (h H (Xt.refl H) _ fun q xs H1 n x e r => ⟨q, rfl, ⟨xs, SqL.of e⟩, ?_⟩))
  have ok : ItOk M (Itl X.K q) (KpL q xs ds) ds := it_lst (M.new hi n)
  obtain ⟨Pv, p0, pt, ps, pd⟩ := k q xs H1 n x e r
  refine ⟨fun i m σ' H' => m = ds.length - i ∧ i ≤ ds.length ∧ Pv i σ' H', ⟨ds.length, by simp, Nat.zero_le _, p0⟩, ?_⟩
  rintro i m σ' H' ⟨rfl, hi, p⟩
  obtain ⟨tm, el⟩ := pt i σ' H' p
  have kp : KpL q xs ds H' := ⟨el, RpL.tm tm _ r⟩
  by_cases hlt : i < ds.length
  · refine .inr ⟨ok.goes i H' kp hlt, Pv (i + 1), fun σ2 H2 p' => ⟨ds.length - (i + 1), by omega, rfl, hlt, p'⟩, fun v H2 y => ?_⟩
    obtain ⟨rfl, d, hd, r⟩ := ok.yld i H' v H2 kp hlt y
    exact ps i d v σ' H2 hd r p
  · have e : i = ds.length := by omega
    subst e
    exact .inl ⟨ok.stops H' kp, pd σ' H' p⟩
end
theorem good1 {F : Fab} {c : Nat} (h : c < F.m) : Good F [c] := ⟨by simp, by simp, fun x hx => by rw [List.mem_singleton.mp hx]; exact h⟩
theorem wt_len {F : Fab} (ok : F.Ok) {L : Nat} {out : List Nat} {d c : Nat} (h : c < F.m) : (F.wt L out d c).length ≤ 106276 := by
  unfold Fab.wt
  by_cases q : c ∈ F.op (F.C c).u d
  · rw [if_pos q]
    have h1 := flat_le (n := 326) (f := fun w => if (F.C (w.getLastD 0)).v ≠ d then F.lA L out d w else []) (l := F.lB L out d [c]) fun w hw => by
      by_cases q2 : (F.C (w.getLastD 0)).v ≠ d
      · rw [if_pos q2]
        exact lA_le ok (lB_good ok _ _ (good1 h) rfl w hw)
      · rw [if_neg q2]
        exact Nat.zero_le _
    have h2 := lB_le (L := L) (out := out) (d := d) ok (good1 h)
    have h3 : (F.lB L out d [c]).length * 326 ≤ 326 * 326 := Nat.mul_le_mul_right _ h2
    omega
  · rw [if_neg q]
    exact Nat.zero_le _
structure WtI where
  F : Fab
  L : Nat
  out : List Nat
  d : Nat
  c : Nat
def WtI.ok (i : WtI) : Prop := i.F.Ok ∧ i.d < i.F.n ∧ i.c < i.F.m
def WtI.ks (i : WtI) : List Kn := [kD i.F.d, kI (i.L : Int), kOut i.out, kI (i.d : Int), kI (i.c : Int)]
section
variable {P : Program} {w : World} {K : PySem.W.Frag} {mg : Str → Option Value} {base : Heap} {f : Addr} {fd : FuncData} {tbs : List Addr} {cT PT : Addr}
def spWt : Sp := spL [] WtI.ok WtI.ks (fun i => (i.F.wt i.L i.out i.d i.c).map dNs)
theorem fnWt (B : Blt mg) (F : Fun K "ways_through" "ways_through" (topS 9) f fd) (hm : mg "ways_through" = some (.ref f)) (fB : FnK P w K mg base "longer_behind" A7 2 spLb) (fA : FnK P w K mg base "longer_ahead" A8 2 spLa) : FnK P w K mg base "ways_through" A9 3 spWt := by
  refine fn_l F hm sc9 (fun _ => rfl) (fun _ _ _ _ _ _ us hl => match us, hl with | [_, _, _, _, _], _ => rfl) fun cdv A outer s H vs Q E i hr hp _ hk hq => ?_
  obtain ⟨F, L, out, d, ch⟩ := i
  have ok : F.Ok := hp.1
  have hd : d < F.n := hp.2.1
  have hch : ch < F.m := hp.2.2
  have hq : RetL M0 ((F.wt L out d ch).map dNs) H Q := hq
  obtain ⟨a, b, c, e, g, rfl, ha, hb, hc, he, hg⟩ := k5 hk
  have ha : kD F.d H a := ha
  have hb : kI (L : Int) H b := hb
  have hc : kOut out H c := hc
  have he : kI (d : Int) H e := he
  have hg : kI (ch : Int) H g := hg
  have g1 := good1 hch
  have hwl := wt_len (L := L) (out := out) (d := d) ok hch
  refine s_fab (M := M0) (i := 5) (j := 6) (l := 7) rfl sc9.nd rfl rfl rfl (j_var 0 rfl ha) fun w1 w2 w3 H0 x0 h1 h2 h3 => ?_
  refine s_when (M := M0) (t := !decide (ch ∈ F.op (F.C ch).u d)) (jt_cmp ok_notInN (j_var 4 rfl (Mn.mono x0 hg)) (j_op2 ok (C_u ok hch) hd (j_var 7 rfl h3) (j_c0 (j_ch hch (j_var 6 rfl h2) (j_var 4 rfl (Mn.mono x0 hg)))) (j_var 3 rfl (Mn.mono x0 he)))) (fun q H1 x1 => ?_) fun q H1 x1 => ?_
  · have e : F.wt L out d ch = [] := by unfold Fab.wt; rw [if_neg (of_decide_eq_false (nb_t q))]
    rw [e] at hq
    exact s_retL (M := M0) j_lst0 fun p xs H2 n x2 e2 r2 => hq p xs H2 (x0.free _ (x1.free _ n)) ((x0.trans x1).trans x2) e2 r2
  · have ew : F.wt L out d ch = (F.lB L out d [ch]).flatMap fun w => if (F.C (w.getLastD 0)).v ≠ d then F.lA L out d w else [] := by unfold Fab.wt; rw [if_pos (of_decide_eq_true (nb_f q))]
    rw [ew] at hq hwl
    have x01 := x0.trans x1
    refine s_asgL (M := M0) 8 sc9.nd j_lst0 fun pf xf H2 n2 x2 e2 r2 => ?_
    have nf : H pf = none := x01.free _ n2
    have x02 := x01.trans x2
    refine s_forN (M := M0) (pg_name (i := 9) sc9.nd rfl (Or.inl rfl)) (j_defL (⟨F, L, out, d, [ch]⟩ : LbI) fB hr ⟨ok, hd, g1⟩ no_tabs (ja_cons (j_var 0 rfl (Mn.mono x02 ha)) (ja_cons (j_var 1 rfl (Mn.mono x02 hb)) (ja_cons (j_var 2 rfl (Mn.mono x02 hc)) (ja_cons (j_var 3 rfl (Mn.mono x02 he)) (ja_cons (j_tup1 (j_var 4 rfl (Mn.mono x02 hg))) ja_nil)))))) rfl trivial fun p ys H3 n3 x3 e3 r3 => ?_
    have hne : pf ≠ p := fun z => by rw [z, n3] at e2; cases e2
    have x03 := x02.trans x3
    refine ⟨fun j σ' H' => ∃ xs o, σ' = [some a, some b, some c, some e, some g, some w1, some w2, some w3, some (.ref pf), o] ∧ OL H' pf xs ((((F.lB L out d [ch]).take j).flatMap fun w => if (F.C (w.getLastD 0)).v ≠ d then F.lA L out d w else []).map dNs) ∧ Xt M0 H H' ∧ Tm H3 H' ∧ H' p = some (.lst ys), ⟨xf, none, rfl, ⟨x3.keep _ _ e2 (nt_lst _) id, RpL.tm x3.tm _ r2⟩, x03, Tm.refl _, e3⟩, fun j σ' H' ⟨_, _, _, _, _, t, e⟩ => ⟨t, e⟩, ?_, ?_⟩
    · rintro j dd v σ' H4 hj rv ⟨xs, o, rfl, of4, x4, t4, e4⟩
      have hj0 : ((F.lB L out d [ch]).map dNs)[j]? = some dd := hj
      rw [List.getElem?_map] at hj0
      obtain ⟨wj, hj1, rfl⟩ := Option.map_eq_some_iff.mp hj0
      have hmem := List.mem_of_getElem? hj1
      have gj := lB_good ok _ _ g1 rfl wj hmem
      have hlast := gj.lt _ (last_mem gj.ne)
      have x2' : ∀ {K : Kn} {v : V} [Mn M0 K], K H0 v → kD (.tuple (F.ch.map dCh)) H0 w2 → True := fun _ _ => trivial
      have h2' : kD (.tuple (F.ch.map dCh)) H4 w2 := Rp.tm (((x1.tm.trans x2.tm).trans x3.tm).trans t4) _ h2
      have hstep := flat_step (f := fun w => if (F.C (w.getLastD 0)).v ≠ d then F.lA L out d w else []) hj1
      have hle := flat_take (F.lB L out d [ch]) (fun w => if (F.C (w.getLastD 0)).v ≠ d then F.lA L out d w else []) (j + 1)
      show WSs _ _ _ _ _
      refine s_when (M := M0) (t := !decide ((F.C (wj.getLastD 0)).v = d)) (JT.is (jt_cmp ok_neI (j_c1 (j_ch hlast (j_var 6 rfl h2') (j_last gj.ne (j_var 9 rfl rv)))) (j_var 3 rfl (Mn.mono x4 he))) (by rw [decN])) (fun q H5 x5 => ?_) fun q H5 x5 => ?_
      · have hv : (F.C (wj.getLastD 0)).v ≠ d := of_decide_eq_false (nb_t q)
        rw [hstep, if_pos hv] at hle
        have of5 := of4.up x5
        have hl := of5.len
        have x05 := x4.trans x5
        refine s_extend (M := M0) (ds := (F.lA L out d wj).map dNs) 8 rfl of5.1 (JL.k (j_defL (⟨F, L, out, d, wj⟩ : LbI) fA hr ⟨ok, hd, gj⟩ no_tabs (ja_cons (j_var 0 rfl (Mn.mono x05 ha)) (ja_cons (j_var 1 rfl (Mn.mono x05 hb)) (ja_cons (j_var 2 rfl (Mn.mono x05 hc)) (ja_cons (j_var 3 rfl (Mn.mono x05 he)) (ja_cons (j_var 9 rfl (Mn.mono (M := M0) (K := kD (dNs wj)) x5 rv)) ja_nil))))))) ?_ id fun zs H6 x6 r6 e6 => s_nil (s_nil ?_)
        · rw [hl, List.length_map, List.length_map]
          rw [List.length_append] at hle
          omega
        · refine ⟨xs ++ zs, some v, rfl, ?_, (x05.trans x6).mut nf, (t4.trans (x5.trans x6).tm).trans (Tm.lst e6), ?_⟩
          · rw [hstep, if_pos hv, List.map_append]
            exact (of5.up x6).ext r6
          · rw [upd_ne hne.symm]
            exact (x5.trans x6).keep _ _ e4 (nt_lst _) id
      · have hv : ¬ ((F.C (wj.getLastD 0)).v ≠ d) := fun z => z (of_decide_eq_true (nb_f q))
        refine s_nil ⟨xs, some v, rfl, ?_, x4.trans x5, t4.trans x5.tm, x5.keep _ _ e4 (nt_lst _) id⟩
        rw [hstep, if_neg hv, List.append_nil]
        exact of4.up x5
    · rintro σ' H4 ⟨xs, o, rfl, of4, x4, t4, e4⟩
      rw [List.length_map, List.take_length] at of4
      refine s_ret (M := M0) (K := kE (.ref pf)) (j_var 8 rfl rfl) fun v H5 x5 k => ?_
      have k : v = .ref pf := k
      subst k
      have o5 := of4.up x5
      exact hq pf xs H5 nf (x4.trans x5) o5.1 o5.2
end
end K68

set_option Elab.async false
set_option linter.all false
set_option maxRecDepth 100000
set_option maxHeartbeats 1000000
/-! K68, text B8: candidates, is_idle. -/
namespace K68
open PySem PySem.Spec L2
open PyProof.Rows hiding St
theorem alike_nats : ∀ a b : List Nat, PySem.W.alikeAll (a.map dI) (b.map dI) = true
  | [], b => by simp [PySem.W.alikeAll]
  | _ :: _, [] => by simp [PySem.W.alikeAll]
  | x :: a, y :: b => by
    show PySem.W.alikeAll (dI x :: a.map dI) (dI y :: b.map dI) = true
    simp only [PySem.W.alikeAll]
    rw [alike_nats a b]
    show (PySem.W.alike (.int _) (.int _) && true) = true
    simp [PySem.W.alike]
theorem alike_pr (p q : Pr) : PySem.W.alike (dPr p) (dPr q) = true := by
  show PySem.W.alike (.tuple [dI p.1, dNs p.2]) (.tuple [dI q.1, dNs q.2]) = true
  simp only [PySem.W.alike, PySem.W.alikeAll]
  have h1 : PySem.W.alike (dI p.1) (dI q.1) = true := by unfold dI; simp [PySem.W.alike]
  have h2 : PySem.W.alike (dNs p.2) (dNs q.2) = true := by unfold dNs; simp only [PySem.W.alike]; exact alike_nats _ _
  rw [h1, h2]
  rfl
theorem depth_nats (l : List Nat) : PyData.depthAll (l.map dI) ≤ 1 := by
  induction l with
  | nil => exact Nat.zero_le _
  | cons x r ih =>
    have e : PyData.depthAll ((x :: r).map dI) = max (dI x).depth (PyData.depthAll (r.map dI)) := by
      rw [List.map_cons]; simp only [PyData.depthAll]
    have e1 : (dI x).depth ≤ 1 := by unfold dI; simp only [PyData.depth]; omega
    rw [e]
    omega
theorem depth_pr (p : Pr) : (dPr p).depth ≤ 20 := by
  have h1 : (dI p.1).depth ≤ 1 := by unfold dI; simp only [PyData.depth]; omega
  have h2 : (dNs p.2).depth ≤ 2 := by have := depth_nats p.2; unfold dNs; simp only [PyData.depth]; omega
  show PyData.depth (.tuple [dI p.1, dNs p.2]) ≤ 20
  simp only [PyData.depth, PyData.depthAll]
  omega
theorem lay_pr (p : Pr) : (dPr p).canLay0 = true := by
  have h1 : (dI p.1).canLay0 = true := rfl
  have h2 := (shpNs p.2).1
  show PyData.canLay0 (.tuple [dI p.1, dNs p.2]) = true
  have : (PyData.canLay0 (dI p.1) && (PyData.canLay0 (dNs p.2) && true)) = true := by rw [h1, h2]; rfl
  simpa [PyData.canLay0, PyData.canLayAll0] using this
theorem shpPrs (ps : List Pr) : ∀ d ∈ ps.map dPr, d.canLay0 = true ∧ d.depth ≤ 20 := fun d h => by
  obtain ⟨p, _, rfl⟩ := List.mem_map.mp h
  exact ⟨lay_pr p, depth_pr p⟩
theorem alike_prs (ps : List Pr) : PySem.W.AllAlike (ps.map dPr) := fun d hd d' hd' => by
  obtain ⟨p, _, rfl⟩ := List.mem_map.mp hd
  obtain ⟨q, _, rfl⟩ := List.mem_map.mp hd'
  exact alike_pr p q
theorem sortable_prs (ps : List Pr) : PySem.W.Sortable (ps.map dPr) := .inl fun d hd => by
  obtain ⟨p, _, rfl⟩ := List.mem_map.mp hd
  exact ⟨_, _, rfl⟩
theorem wt_good {F : Fab} (ok : F.Ok) {L : Nat} {out : List Nat} {d c : Nat} (h : c < F.m) : ∀ x ∈ F.wt L out d c, Good F x := by
  intro x hx
  unfold Fab.wt at hx
  by_cases q : c ∈ F.op (F.C c).u d
  · rw [if_pos q] at hx
    obtain ⟨w, hw, hx⟩ := List.mem_flatMap.mp hx
    by_cases q2 : (F.C (w.getLastD 0)).v ≠ d
    · rw [if_pos q2] at hx
      exact lA_good _ _ (lB_good ok _ _ (good1 h) rfl w hw) rfl x hx
    · rw [if_neg q2] at hx
      cases hx
  · rw [if_neg q] at hx
    cases hx
theorem kOut_put {H : Hp} {p : Addr} {l : List Nat} (h : H p = some (.dK (putAll (castI l)))) : kOut l H (.ref p) := ⟨_, fun c => by rw [hasK_putAll, dec_castI], p, rfl, .inl h, id⟩
structure CdI where
  F : Fab
  L : Nat
  chosen : List Pr
  barred : List Nat
  c : Nat
structure CdI.ok (i : CdI) : Prop where
  F : i.F.Ok
  c : i.c < i.F.m
  l1 : (i.barred ++ heldL i.chosen).length ≤ 1000
def CdI.ks (i : CdI) : List Kn := [kD i.F.d, kI (i.L : Int), kD (dPrs i.chosen), kD (dNs i.barred), kI (i.c : Int)]
/-- what one number of nodes gives -/
def Fab.cd1 (F : Fab) (L : Nat) (chosen : List Pr) (barred : List Nat) (c d : Nat) : List Pr := ((F.wt L (barred ++ heldL chosen) d c).filter fun w => !(F.wo d w).any fun x => decide (x ∈ barred)).map fun w => (d, w)
theorem heldL_len_take (chosen : List Pr) (j : Nat) : (heldL (chosen.take j)).length ≤ (heldL chosen).length := flat_take chosen (·.2) j
section
variable {P : Program} {w : World} {K : PySem.W.Frag} {mg : Str → Option Value} {base : Heap} {f : Addr} {fd : FuncData} {tbs : List Addr} {cT PT : Addr}
def spCd (tbs : List Addr) : Sp := spL tbs CdI.ok CdI.ks (fun i => (i.F.cand i.L i.chosen i.barred i.c).map dPr)
theorem fnCd (B : Blt mg) (F : FunT K "candidates" "candidates" (topS 10) f fd cT) (hm : mg "candidates" = some (.ref f)) (TB : GxR.TabB base mg cT PT) (hPT : PT ∈ tbs) (fW : FnK P w K mg base "ways_through" A9 3 spWt) (fO : FnK P w K mg base "way_options" ["fabric", "d", "way"] 1 spWo) : FnK P w K mg base "candidates" A10 4 (spCd tbs) := by
  refine fn_lT F hm sc10 (fun _ => rfl) (fun _ _ _ _ _ _ us hl => match us, hl with | [_, _, _, _, _], _ => rfl) fun A outer s H vs Q E i hr hp ht hk hq => ?_
  obtain ⟨F, L, chosen, barred, ch⟩ := i
  have ok : F.Ok := hp.F
  have hch : ch < F.m := hp.c
  have hl1 : (barred ++ heldL chosen).length ≤ 1000 := hp.l1
  have hq : RetL M0 ((F.cand L chosen barred ch).map dPr) H Q := hq
  obtain ⟨a, b, c, e, g, rfl, ha, hb, hc, he, hg⟩ := k5 hk
  have ha : kD F.d H a := ha
  have hb : kI (L : Int) H b := hb
  have hc : kD (dPrs chosen) H c := hc
  have he : kD (dNs barred) H e := he
  have hg : kI (ch : Int) H g := hg
  have hu := hu_of hr
  have hun := hr.un
  have hlb : barred.length ≤ 1000 := by rw [List.length_append] at hl1; omega
  refine s_asgDc (M := M0) 6 (bs := barred) (enc := dI) (gk := fun (n : Nat) => (n : Int)) (f := fun _ => true) rfl sc10.nd bk10_0 (fun s H C cl fp => pg_name sc10.nd (i := 5) rfl (Or.inl rfl)) (JI.x (ji_tup (j_var 3 rfl he))) (by omega) (tg_name fun v => rfl) trivial (fun H1 b' σ2 x hb gd => jbts_nil) (fun H1 b' σ2 x hb gd _ => ?_) (fun H1 σ2 s0 H0 C cl fp => j_bl) fun po H1 n1 x1 e1 => ?_
  · obtain ⟨v, hv, rfl⟩ := gd
    intro s0 H0 C cl fp
    exact j_var 5 rfl hv
  have e1 : H1 po = some (.dK (putAll (castI (barred ++ heldL (chosen.take 0))))) := by
    rw [e1, filter_T]
    show _ = some (HO.dK (putAll (castI (barred ++ []))))
    rw [List.append_nil]
    rfl
  refine s_for (M := M0) (pg_tup rfl (pgs_cons (pg_name (i := 7) sc10.nd rfl (Or.inl rfl)) (pgs_cons (pg_name (i := 8) sc10.nd rfl (Or.inl rfl)) pgs_nil))) (ji_tup (j_var 2 rfl (Mn.mono x1 hc))) rfl fun H2 x2 => ?_
  refine ⟨fun j σ' H' => ∃ o5 o7 o8, σ' = [some a, some b, some c, some e, some g, o5, some (.ref po), o7, o8, none] ∧ H' po = some (.dK (putAll (castI (barred ++ heldL (chosen.take j))))) ∧ Xt M0 H H' ∧ Tm H2 H', ⟨none, none, none, rfl, x2.keep _ _ e1 (nt_dK _) id, x1.trans x2, Tm.refl _⟩, fun j σ' H' ⟨_, _, _, _, _, _, t⟩ => t, ?_, ?_⟩
  · rintro j dd v σ' H3 hj rv ⟨o5, o7, o8, rfl, e3, x3, t3⟩
    have hj0 : (chosen.map dPr)[j]? = some dd := hj
    rw [List.getElem?_map] at hj0
    obtain ⟨pj, hj1, rfl⟩ := Option.map_eq_some_iff.mp hj0
    refine g_pair rv fun v1 v2 r1 r2 => ?_
    have hst : heldL (chosen.take (j + 1)) = heldL (chosen.take j) ++ pj.2 := flat_step (f := fun p : Pr => p.2) hj1
    have hle := heldL_len_take chosen (j + 1)
    rw [hst, List.length_append] at hle
    rw [List.length_append] at hl1
    refine s_for (M := M0) (pg_name (i := 5) sc10.nd rfl (Or.inl rfl)) (ji_tup (j_var 8 rfl (K := kD (dNs pj.2)) r2)) rfl fun H4 x4 => ?_
    refine ⟨fun k σ' H' => ∃ o5, σ' = [some a, some b, some c, some e, some g, o5, some (.ref po), some v1, some v2, none] ∧ H' po = some (.dK (putAll (castI (barred ++ heldL (chosen.take j) ++ pj.2.take k)))) ∧ Xt M0 H H' ∧ Tm H2 H' ∧ Tm H4 H', ⟨o5, rfl, ?_, x3.trans x4, t3.trans x4.tm, Tm.refl _⟩, fun j σ' H' ⟨_, _, _, _, _, t⟩ => t, ?_, ?_⟩
    · rw [List.take_zero, List.append_nil]
      exact x4.keep _ _ e3 (nt_dK _) id
    · rintro k dk v5 σ' H5 hk5 rv5 ⟨o, rfl, e5, x5, t5, t5'⟩
      have hk0 : (pj.2.map dI)[k]? = some dk := hk5
      rw [List.getElem?_map] at hk0
      obtain ⟨ck, hk1, rfl⟩ := Option.map_eq_some_iff.mp hk0
      show WSs _ _ _ _ _
      refine s_dput (M := M0) 6 (K := kB true) (c := (ck : Int)) hu rfl e5 j_bl (j_var 5 rfl (K := kI (ck : Int)) rv5) ?_ id fun v6 H6 x6 k6 e6 => s_nil ⟨some v5, rfl, ?_, (x5.trans x6).mut n1, (t5.trans x6.tm).trans (Tm.dK e6), (t5'.trans x6.tm).trans (Tm.dK e6)⟩
      · have h1 := putAll_len (castI (barred ++ heldL (chosen.take j) ++ pj.2.take k))
        rw [castI_len, List.length_append, List.length_append, List.length_take] at h1
        omega
      · have e7 : castI (barred ++ heldL (chosen.take j) ++ pj.2.take (k + 1)) = castI (barred ++ heldL (chosen.take j) ++ pj.2.take k) ++ [(ck : Int)] := by
          rw [take_snoc hk1, ← List.append_assoc]
          unfold castI
          rw [List.map_append]
          rfl
        rw [e7, putAll_app, kB_eq k6]
        exact upd_same
    · rintro σ' H5 ⟨o, rfl, e5, x5, t5, t5'⟩
      refine s_nil ⟨o, some v1, some v2, rfl, ?_, x5, t5⟩
      rw [List.length_map, List.take_length] at e5
      rw [hst, ← List.append_assoc]
      exact e5
  · rintro σ' H3 ⟨o5, o7, o8, rfl, e3, x3, t3⟩
    rw [List.length_map, List.take_length] at e3
    refine s_asgL (M := M0) 9 sc10.nd j_lst0 fun pf xf H4 n4 x4 e4 r4 => ?_
    have nf : H pf = none := x3.free _ n4
    have x04 := x3.trans x4
    have e4o := x4.keep _ _ e3 (nt_dK _) id
    have hkO : kOut (barred ++ heldL chosen) H4 (.ref po) := kOut_put e4o
    have hne : pf ≠ po := fun z => by rw [z, e3] at n4; cases n4
    refine s_when (M := M0) (t := decide (ch ∈ barred ++ heldL chosen)) (JT.is (jt_cmp (ok_inD (kvs := putAll (castI (barred ++ heldL chosen))) hu) (j_var 4 rfl (Mn.mono x04 hg)) (j_var 6 rfl ⟨po, rfl, .inl e4o, id⟩)) (by rw [hasK_putAll, dec_castI])) (fun q H5 x5 => ?_) fun q H5 x5 => ?_
    · have ec : F.cand L chosen barred ch = [] := by unfold Fab.cand; rw [if_pos (of_decide_eq_true q)]
      rw [ec] at hq
      refine s_ret (M := M0) (K := kE (.ref pf)) (j_var 9 rfl rfl) fun v H6 x6 k => ?_
      have k : v = .ref pf := k
      subst k
      exact hq pf xf H6 nf (x04.trans (x5.trans x6)) ((x5.trans x6).keep _ _ e4 (nt_lst _) id) (RpL.tm (x5.trans x6).tm _ r4)
    · have ec : F.cand L chosen barred ch = sortP (F.cand0 L chosen barred ch) := by unfold Fab.cand; rw [if_neg (of_decide_eq_false q)]
      rw [ec] at hq
      have x05 := x04.trans x5
      refine s_for (M := M0) (pg_name (i := 7) sc10.nd rfl (Or.inl rfl)) (ji_rng (n := F.n) rfl B.range (j_n0 (j_f0 (j_var 0 rfl (Mn.mono x05 ha)))) (by have := ok.n4; omega)) rfl fun H6 x6 => ?_
      have x06 := x05.trans x6
      refine ⟨fun j σ' H' => ∃ o5 o7 o8 xs, σ' = [some a, some b, some c, some e, some g, o5, some (.ref po), o7, o8, some (.ref pf)] ∧ OL H' pf xs (((List.range j).flatMap (F.cd1 L chosen barred ch)).map dPr) ∧ H' po = some (.dK (putAll (castI (barred ++ heldL chosen)))) ∧ Xt M0 H H' ∧ Tm H6 H',
        ⟨o5, o7, o8, xf, rfl, OL.up (OL.up ⟨e4, r4⟩ x5) x6, (x5.trans x6).keep _ _ e4o (nt_dK _) id, x06, Tm.refl _⟩, fun j σ' H' ⟨_, _, _, _, _, _, _, _, t⟩ => t, ?_, ?_⟩
      · rintro j dd v7 σ' H7 hj rv ⟨o5, o7, o8, xs, rfl, of7, e7, x7, t7⟩
        have hj' : j < F.n := by
          have := (List.getElem?_eq_some_iff.mp hj).1
          rw [rangeD_len] at this; exact this
        rw [rangeD_at hj'] at hj
        cases hj
        show WSs _ _ _ _ _
        refine s_forN (M := M0) (pg_name (i := 8) sc10.nd rfl (Or.inl rfl)) (j_defL (⟨F, L, barred ++ heldL chosen, j, ch⟩ : WtI) fW hr ⟨ok, hj', hch⟩ no_tabs (ja_cons (j_var 0 rfl (Mn.mono x7 ha)) (ja_cons (j_var 1 rfl (Mn.mono x7 hb)) (ja_cons (j_var 6 rfl (kOut_put e7)) (ja_cons (j_var 7 rfl (K := kI (j : Int)) rv) (ja_cons (j_var 4 rfl (Mn.mono x7 hg)) ja_nil)))))) rfl trivial fun p ys H8 n8 x8 e8 r8 => ?_
        have hnp : pf ≠ p := fun z => by rw [z] at of7; rw [of7.1] at n8; cases n8
        have hwl := wt_len (L := L) (out := barred ++ heldL chosen) (d := j) ok hch
        refine ⟨fun k σ' H' => ∃ o5 o8 xs, σ' = [some a, some b, some c, some e, some g, o5, some (.ref po), some v7, o8, some (.ref pf)] ∧ OL H' pf xs (((List.range j).flatMap (F.cd1 L chosen barred ch) ++ (((F.wt L (barred ++ heldL chosen) j ch).take k).filter fun w => !(F.wo j w).any fun x => decide (x ∈ barred)).map fun w => (j, w)).map dPr) ∧ H' po = some (.dK (putAll (castI (barred ++ heldL chosen)))) ∧ Xt M0 H H' ∧ Tm H6 H' ∧ Tm H8 H' ∧ H' p = some (.lst ys),
          ⟨o5, o8, xs, rfl, ?_, x8.keep _ _ e7 (nt_dK _) id, x7.trans x8, t7.trans x8.tm, Tm.refl _, e8⟩, fun j σ' H' ⟨_, _, _, _, _, _, _, _, t, e⟩ => ⟨t, e⟩, ?_, ?_⟩
        · rw [List.take_zero]
          show OL H8 pf xs ((_ ++ []).map dPr)
          rw [List.append_nil]
          exact of7.up x8
        · rintro k dk v8 σ' H9 hk9 rv8 ⟨o5, o8, xs, rfl, of9, e9, x9, t9, t9', el9⟩
          have hk0 : ((F.wt L (barred ++ heldL chosen) j ch).map dNs)[k]? = some dk := hk9
          rw [List.getElem?_map] at hk0
          obtain ⟨wk, hk1, rfl⟩ := Option.map_eq_some_iff.mp hk0
          have gk := wt_good ok hch wk (List.mem_of_getElem? hk1)
          have rv7 : kI (j : Int) H9 v7 := Rp.tm (x8.tm.trans t9') _ rv
          show WSs _ _ _ _ _
          refine s_when (M := M0) (t := !(F.wo j wk).any fun x => decide (x ∈ barred)) (jt_not (jt_val (j_any1 (k := 1) (bs := F.wo j wk) (enc := dI) (t := fun x => decide (x ∈ barred)) (hr.mono (by decide : 1 + 1 ≤ 3)) rfl B.any TB rfl ⟨bk10_1, rfl, by decide +kernel, rfl⟩ sc10.nd (x9.tab _ (ht _ hPT))
            (JI.x (ji_tup (j_def (F, j, wk) fO (hr.mono (by decide : 1 ≤ 3)) ⟨ok, hj', gk.ne, gk.lt⟩ no_tabs (ja_cons (j_var 0 rfl (Mn.mono x9 ha)) (ja_cons (j_var 7 rfl rv7) (ja_cons (j_var 8 rfl (K := kD (dNs wk)) rv8) ja_nil)))))) (tg_name fun v => rfl)
            (fun s0 H0 cl C code bi fp A' pn => pg_name sc10.nd (i := 5) rfl (Or.inl rfl)) (fun H3 c' σ2 x3 hmem gd => ?_) (hb := bt_any)))) (fun q H10 x10 => ?_) fun q H10 x10 => ?_
          · obtain ⟨v, hv, rfl⟩ := gd
            intro s0 H0 cl C code bi fp A' pn hrm
            exact j_cmp ok_inN (j_var 5 rfl (K := kI (c' : Int)) hv) (j_var 3 rfl (Mn.mono (x9.trans x3) he))
          · have of10 := of9.up x10
            have hl := of10.len
            have hfs := fm_step (f := fun w => !(F.wo j w).any fun x => decide (x ∈ barred)) (g := fun w => (j, w)) hk1
            rw [if_pos q] at hfs
            refine s_append (M := M0) 9 (K := kD (dPr (j, wk))) rfl of10.1 (j_tup2 (j_var 7 rfl (Mn.mono (M := M0) (K := kI (j : Int)) x10 rv7)) (j_var 8 rfl (Mn.mono (M := M0) (K := kD (dNs wk)) x10 rv8))) ?_ id fun v12 H12 x12 kv e12 => s_nil (s_nil ?_)
            · rw [hl, List.length_map, List.length_append]
              have h1 := flat_le (f := F.cd1 L chosen barred ch) (n := 106276) (l := List.range j) fun d' hd' => by
                unfold Fab.cd1
                rw [List.length_map]
                exact Nat.le_trans (List.length_filter_le _ _) (wt_len ok hch)
              rw [List.length_range] at h1
              have h2 := List.length_filter_le (fun w => !(F.wo j w).any fun x => decide (x ∈ barred)) ((F.wt L (barred ++ heldL chosen) j ch).take k)
              rw [List.length_take] at h2
              rw [List.length_map]
              have h4 := ok.n4
              have h5 : j * 106276 ≤ 3 * 106276 := Nat.mul_le_mul_right _ (by omega)
              omega
            · have of12 := of10.up x12
              have hpp : H12 po = some (.dK (putAll (castI (barred ++ heldL chosen)))) := (x10.trans x12).keep _ _ e9 (nt_dK _) id
              have hpo : po ≠ pf := fun z => by rw [z, e12] at hpp; cases hpp
              refine ⟨o5, some v8, xs ++ [v12], rfl, ?_, by rw [upd_ne hpo]; exact hpp, ((x9.trans x10).trans x12).mut nf, (t9.trans (x10.trans x12).tm).trans (Tm.lst e12), (t9'.trans (x10.trans x12).tm).trans (Tm.lst e12), by rw [upd_ne hnp.symm]; exact (x10.trans x12).keep _ _ el9 (nt_lst _) id⟩
              rw [hfs, ← List.append_assoc, List.map_append]
              exact of12.app kv
          · have hfs := fm_step (f := fun w => !(F.wo j w).any fun x => decide (x ∈ barred)) (g := fun w => (j, w)) hk1
            rw [if_neg (by rw [q]; exact Bool.false_ne_true), List.append_nil] at hfs
            refine s_nil ⟨o5, some v8, xs, rfl, ?_, x10.keep _ _ e9 (nt_dK _) id, x9.trans x10, t9.trans x10.tm, t9'.trans x10.tm, x10.keep _ _ el9 (nt_lst _) id⟩
            rw [hfs]
            exact of9.up x10
        · rintro σ' H9 ⟨o5, o8, xs, rfl, of9, e9, x9, t9, t9', el9⟩
          refine s_nil ⟨o5, some v7, o8, xs, rfl, ?_, e9, x9, t9⟩
          rw [List.length_map, List.take_length] at of9
          rw [List.range_succ, List.flatMap_append]
          show OL H9 pf xs ((_ ++ (F.cd1 L chosen barred ch j ++ [])).map dPr)
          rw [List.append_nil]
          exact of9
      · rintro σ' H7 ⟨o5, o7, o8, xs, rfl, of7, e7, x7, t7⟩
        rw [rangeD_len] at of7
        refine s_retL (M := M0) (ds := (sortP (F.cand0 L chosen barred ch)).map dPr) (j_callBL (ck_sortL (bs := F.cand0 L chosen barred ch) (alike_prs _) (sortable_prs _) (fun p _ => depth_pr p) (by omega)) rfl B.sorted bt_sorted (ja_cons (j_var 9 rfl of7.kl) ja_nil) (by decide) (by decide) rfl rfl) fun p ys H8 n8 x8 e8 r8 => ?_
        exact hq p ys H8 (x7.free _ n8) (x7.trans x8) e8 r8
/-! ### is_idle -/
def spId (tbs : List Addr) : Sp := spK tbs CdI.ok CdI.ks (fun i => kB (decide (i.F.cand i.L i.chosen i.barred i.c = [])))
theorem fnId (B : Blt mg) (F : Fun K "is_idle" "is_idle" (topS 11) f fd) (hm : mg "is_idle" = some (.ref f)) (fC : FnK P w K mg base "candidates" A10 4 (spCd tbs)) : FnK P w K mg base "is_idle" A11 5 (spId tbs) := by
  refine fn_k F hm sc11 (fun _ => rfl) (fun _ _ _ _ _ _ us hl => match us, hl with | [_, _, _, _, _], _ => rfl) fun cdv A outer s H vs Q E i hr hp ht hk hq => ?_
  obtain ⟨F, L, chosen, barred, ch⟩ := i
  have hq : RetK M0 (kB (decide (F.cand L chosen barred ch = []))) H Q := hq
  obtain ⟨a, b, c, e, g, rfl, ha, hb, hc, he, hg⟩ := k5 hk
  have hun := hr.un
  refine s_ret (M := M0) (K := kB (decide ((F.cand L chosen barred ch).map dPr = []))) (j_cmp (ok_eqL0 (shpPrs _) (by omega)) (JL.k (j_defL (⟨F, L, chosen, barred, ch⟩ : CdI) fC hr hp ht (ja_cons (j_var 0 rfl ha) (ja_cons (j_var 1 rfl hb) (ja_cons (j_var 2 rfl hc) (ja_cons (j_var 3 rfl he) (ja_cons (j_var 4 rfl hg) ja_nil))))))) (JL.k j_lst0)) fun v H1 x k => hq v H1 x ?_
  have e : decide ((F.cand L chosen barred ch).map dPr = []) = decide (F.cand L chosen barred ch = []) := decide_eq_decide.mpr List.map_eq_nil_iff
  rw [← e]
  exact k
end
end K68

set_option Elab.async false
set_option linter.all false
set_option maxRecDepth 100000
/-! K68, text M2: options, held channels, idle channels, the search in plain Lean. -/
namespace K68
open PySem PySem.Spec L2 PySem.W
open PyProof.Rows hiding St
/-! ### distinct, in order of first meeting; sorted -/
def ddN (l : List Nat) : List Nat := l.foldl (fun acc c => if c ∈ acc then acc else acc ++ [c]) []
theorem ddN_aux : ∀ (l acc : List Nat), acc.Nodup → (l.foldl (fun acc c => if c ∈ acc then acc else acc ++ [c]) acc).Nodup ∧ ∀ x, x ∈ l.foldl (fun acc c => if c ∈ acc then acc else acc ++ [c]) acc ↔ x ∈ acc ∨ x ∈ l
  | [], acc, h => ⟨h, fun x => ⟨.inl, fun z => z.elim id (fun q => by cases q)⟩⟩
  | c :: l, acc, h => by
    rw [List.foldl_cons]
    by_cases hc : c ∈ acc
    · rw [if_pos hc]
      obtain ⟨h1, h2⟩ := ddN_aux l acc h
      refine ⟨h1, fun x => (h2 x).trans ?_⟩
      rw [List.mem_cons]
      exact ⟨fun z => z.elim .inl fun q => .inr (.inr q), fun z => z.elim .inl fun q => q.elim (fun e => .inl (e ▸ hc)) .inr⟩
    · rw [if_neg hc]
      have hn : (acc ++ [c]).Nodup := by
        rw [List.nodup_append]
        refine ⟨h, by simp, fun a ha b hb e => hc ?_⟩
        rw [List.mem_singleton] at hb
        rw [← hb, ← e]
        exact ha
      obtain ⟨h1, h2⟩ := ddN_aux l (acc ++ [c]) hn
      refine ⟨h1, fun x => (h2 x).trans ?_⟩
      rw [List.mem_append, List.mem_singleton, List.mem_cons]
      exact ⟨fun z => z.elim (fun q => q.elim .inl fun e => .inr (.inl e)) fun q => .inr (.inr q), fun z => z.elim (fun q => .inl (.inl q)) fun q => q.elim (fun e => .inl (.inr e)) .inr⟩
theorem ddN_nd (l : List Nat) : (ddN l).Nodup := (ddN_aux l [] List.nodup_nil).1
theorem ddN_mem {l : List Nat} {x : Nat} : x ∈ ddN l ↔ x ∈ l := ((ddN_aux l [] List.nodup_nil).2 x).trans ⟨fun z => z.elim (fun q => by cases q) id, .inr⟩
def sN (l : List Nat) : List Nat := (ddN l).mergeSort fun a b => decide (a ≤ b)
theorem sN_perm (l : List Nat) : (sN l).Perm (ddN l) := List.mergeSort_perm _ _
theorem sN_mem {l : List Nat} {x : Nat} : x ∈ sN l ↔ x ∈ l := (sN_perm l).mem_iff.trans ddN_mem
theorem sN_nd (l : List Nat) : (sN l).Nodup := (sN_perm l).nodup_iff.mpr (ddN_nd l)
theorem sN_asc (l : List Nat) : (sN l).Pairwise (· ≤ ·) := by
  have h := List.pairwise_mergeSort (le := fun a b : Nat => decide (a ≤ b)) (fun a b c h1 h2 => by
    simp only [decide_eq_true_eq] at *; omega) (fun a b => by
    simp only [Bool.or_eq_true, decide_eq_true_eq]; omega) (ddN l)
  exact h.imp fun h => by simpa using h
/-! ### the parts of a search -/
def Fab.opts (F : Fab) (chosen : List Pr) : List Nat := chosen.flatMap fun p => F.wo p.1 p.2
def Fab.aO (F : Fab) (chosen : List Pr) : List Nat := sN (F.opts chosen)
def Fab.isC (F : Fab) (chosen : List Pr) (barred : List Nat) : Bool := if chosen.length = 0 then decide ((ddN barred).length = F.m) else (F.aO chosen).any fun c => decide (c ∈ barred)
def Fab.opC (F : Fab) (chosen : List Pr) (barred : List Nat) : List Nat := (if 0 < chosen.length then F.aO chosen else List.range F.m).filter fun c => !decide (c ∈ heldL chosen) && !decide (c ∈ barred)
def Fab.st1 (F : Fab) (L : Nat) (chosen : List Pr) (barred : List Nat) (o : List Nat) (c : Nat) : List Nat :=
  if (!decide (c ∈ heldL chosen) && (!decide (c ∈ barred ++ o) && decide (F.cand L chosen (barred ++ o) c = []))) = true then o ++ [c] else o
def Fab.ps (F : Fab) (L : Nat) (chosen : List Pr) (barred : List Nat) (o : List Nat) (j : Nat) : List Nat := (List.range j).foldl (F.st1 L chosen barred) o
def Fab.io (F : Fab) (L : Nat) (chosen : List Pr) (barred : List Nat) : Nat → List Nat → List Nat
  | 0, o => o
  | k + 1, o => if o.length < (F.ps L chosen barred o F.m).length then F.io L chosen barred k (F.ps L chosen barred o F.m) else o
def Fab.idle (F : Fab) (L : Nat) (chosen : List Pr) (barred : List Nat) : List Nat := F.io L chosen barred (F.m + 1) []
/-- what holds of each stand of the order -/
structure Ord (F : Fab) (L : Nat) (chosen : List Pr) (barred o : List Nat) : Prop where
  nd : o.Nodup
  lt : ∀ c ∈ o, c < F.m
  ok : ∀ k c, o[k]? = some c → c ∉ heldL chosen ∧ c ∉ barred ++ o.take k ∧ F.cand L chosen (barred ++ o.take k) c = []
theorem Ord.nil {F : Fab} {L : Nat} {chosen : List Pr} {barred : List Nat} : Ord F L chosen barred [] := ⟨List.nodup_nil, fun c h => (by cases h), fun k c h => (by simp at h)⟩
theorem Ord.st {F : Fab} {L : Nat} {chosen : List Pr} {barred o : List Nat} {c : Nat} (h : Ord F L chosen barred o) (hc : c < F.m) : Ord F L chosen barred (F.st1 L chosen barred o c) ∧ o.length ≤ (F.st1 L chosen barred o c).length := by
  unfold Fab.st1
  by_cases q : (!decide (c ∈ heldL chosen) && (!decide (c ∈ barred ++ o) && decide (F.cand L chosen (barred ++ o) c = []))) = true
  · rw [if_pos q]
    simp only [Bool.and_eq_true, Bool.not_eq_true', decide_eq_false_iff_not, decide_eq_true_eq] at q
    obtain ⟨q1, q2, q3⟩ := q
    refine ⟨⟨?_, fun x hx => ?_, fun k x hk => ?_⟩, by simp⟩
    · rw [List.nodup_append]
      refine ⟨h.nd, by simp, fun a ha b hb e => q2 ?_⟩
      rw [List.mem_singleton] at hb
      rw [← hb, ← e]
      exact List.mem_append_right _ ha
    · rcases List.mem_append.mp hx with z | z
      · exact h.lt x z
      · rw [List.mem_singleton.mp z]; exact hc
    · have hlt := (List.getElem?_eq_some_iff.mp hk).1
      rw [List.length_append, List.length_singleton] at hlt
      by_cases e : k < o.length
      · rw [List.getElem?_append_left e] at hk
        rw [List.take_append_of_le_length (Nat.le_of_lt e)]
        exact h.ok k x hk
      · have e2 : k = o.length := by omega
        subst e2
        rw [List.getElem?_append_right (Nat.le_refl _), Nat.sub_self] at hk
        cases hk
        rw [List.take_append_of_le_length (Nat.le_refl _), List.take_length]
        exact ⟨q1, q2, q3⟩
  · rw [if_neg q]
    exact ⟨h, Nat.le_refl _⟩
theorem Ord.ps {F : Fab} {L : Nat} {chosen : List Pr} {barred o : List Nat} (h : Ord F L chosen barred o) : ∀ j, j ≤ F.m → Ord F L chosen barred (F.ps L chosen barred o j) ∧ o.length ≤ (F.ps L chosen barred o j).length
  | 0, _ => ⟨h, Nat.le_refl _⟩
  | j + 1, hj => by
    obtain ⟨h1, h2⟩ := Ord.ps h j (by omega)
    have e : F.ps L chosen barred o (j + 1) = F.st1 L chosen barred (F.ps L chosen barred o j) j := by
      unfold Fab.ps
      rw [List.range_succ, List.foldl_append]
      rfl
    obtain ⟨h3, h4⟩ := h1.st (c := j) (by omega)
    rw [e]
    exact ⟨h3, by omega⟩
theorem Ord.io {F : Fab} {L : Nat} {chosen : List Pr} {barred : List Nat} : ∀ k o, Ord F L chosen barred o → Ord F L chosen barred (F.io L chosen barred k o)
  | 0, o, h => h
  | k + 1, o, h => by
    show Ord F L chosen barred (if _ then _ else _)
    by_cases q : o.length < (F.ps L chosen barred o F.m).length
    · rw [if_pos q]
      exact Ord.io k _ (h.ps F.m (Nat.le_refl _)).1
    · rw [if_neg q]
      exact h
theorem Ord.idle {F : Fab} {L : Nat} {chosen : List Pr} {barred : List Nat} : Ord F L chosen barred (F.idle L chosen barred) := Ord.io _ _ Ord.nil
theorem Ord.len {F : Fab} {L : Nat} {chosen : List Pr} {barred o : List Nat} (h : Ord F L chosen barred o) : o.length ≤ F.m := by
  have := nodup_le o (List.range F.m) h.nd fun k hk => List.mem_range.mpr (h.lt k hk)
  rw [List.length_range] at this
  exact this
/-! ### the search -/
inductive Tr where
  | cl (o : List Nat)
  | sp (o : List Nat) (c : Nat) (ts : List Tr)
mutual
def dTr : Tr → PyData
  | .cl o => .tuple [.str "closed", dNs o]
  | .sp o c ts => .tuple [.str "split", dNs o, dI c, .tuple (dTrs ts)]
def dTrs : List Tr → List PyData
  | [] => []
  | t :: ts => dTr t :: dTrs ts
end
theorem dTrs_map : ∀ ts : List Tr, dTrs ts = ts.map dTr
  | [] => by simp [dTrs]
  | t :: ts => by simp [dTrs, dTrs_map ts]
inductive Rs where
  | knot (ps : List Pr)
  | tree (t : Tr)
def dRs : Rs → PyData
  | .knot ps => .tuple [.str "knot", dPrs ps]
  | .tree t => .tuple [.str "tree", dTr t]
/-- the pairs one after another: a knot ends it -/
def loopS (f : Pr → Rs) : List Pr → List Tr → Except (List Pr) (List Tr)
  | [], ts => .ok ts
  | p :: ps, ts => match f p with
    | .knot q => .error q
    | .tree t => loopS f ps (ts ++ [t])
/-- the row of a channel, as data -/
def dRow2 (r : Nat × Nat) : PyData := .tuple [dI r.1, dI r.2]
def minR : Nat × Nat → List (Nat × Nat) → Nat × Nat
  | b, [] => b
  | b, x :: r => minR (if x.1 < b.1 ∨ (x.1 = b.1 ∧ x.2 < b.2) then x else b) r
theorem minR_mem : ∀ (l : List (Nat × Nat)) (b : Nat × Nat), minR b l = b ∨ minR b l ∈ l
  | [], b => .inl rfl
  | x :: r, b => by
    unfold minR
    by_cases q : x.1 < b.1 ∨ (x.1 = b.1 ∧ x.2 < b.2)
    · rw [if_pos q]
      rcases minR_mem r x with e | e
      · rw [e]; exact .inr List.mem_cons_self
      · exact .inr (List.mem_cons_of_mem _ e)
    · rw [if_neg q]
      rcases minR_mem r b with e | e
      · exact .inl e
      · exact .inr (List.mem_cons_of_mem _ e)
def Fab.rowOf (F : Fab) (L : Nat) (chosen : List Pr) (barred : List Nat) (c : Nat) : Nat × Nat := ((F.cand L chosen barred c).length, c)
def Fab.pick (F : Fab) (L : Nat) (chosen : List Pr) (barred left : List Nat) : Nat := match left with
  | [] => 0
  | c :: r => (minR (F.rowOf L chosen barred c) (r.map (F.rowOf L chosen barred))).2
theorem pick_mem {F : Fab} {L : Nat} {chosen : List Pr} {barred left : List Nat} (h : left ≠ []) : F.pick L chosen barred left ∈ left := by
  cases left with
  | nil => exact absurd rfl h
  | cons c r =>
    show (minR (F.rowOf L chosen barred c) (r.map (F.rowOf L chosen barred))).2 ∈ c :: r
    rcases minR_mem (r.map (F.rowOf L chosen barred)) (F.rowOf L chosen barred c) with e | e
    · rw [e]; exact List.mem_cons_self
    · obtain ⟨x, hx, e2⟩ := List.mem_map.mp e
      rw [← e2]
      exact List.mem_cons_of_mem _ hx
def Fab.srch (F : Fab) (L : Nat) : Nat → List Pr → List Nat → Rs
  | 0, _, _ => .tree (.cl [])
  | k + 1, chosen, barred =>
    let order := F.idle L chosen barred
    let b2 := barred ++ order
    if F.isC chosen b2 = true then .tree (.cl order) else
    let left := F.opC chosen b2
    if left = [] then .knot (sortP chosen) else
    let c := F.pick L chosen b2 left
    match loopS (fun p => F.srch L k (chosen ++ [p]) b2) (F.cand L chosen b2 c) [] with
    | .error q => .knot q
    | .ok ts => if chosen.length = 0 then (match F.srch L k chosen (b2 ++ [c]) with
        | .knot q => .knot q
        | .tree t => .tree (.sp order c (ts ++ [t]))) else .tree (.sp order c ts)
end K68

set_option Elab.async false
set_option linter.all false
set_option maxRecDepth 100000
set_option maxHeartbeats 1000000
/-! K68, text B9: all_options, held_by, is_closed, open_channels, idle_order. -/
namespace K68
open PySem PySem.Spec L2
open PyProof.Rows hiding St
theorem putK_keys {kvs : List (Key × V)} {acc : List Nat} (h : kvs.map (·.1) = (castI acc).map Sum.inl) (c : Nat) (v : V) : (putK kvs (Sum.inl (c : Int)) v).map (·.1) = (castI (if c ∈ acc then acc else acc ++ [c])).map Sum.inl := by
  have ha : (kvs.any fun kv => decide (kv.1 = Sum.inl (c : Int))) = decide (c ∈ acc) := by
    have e : (kvs.any fun kv => decide (kv.1 = Sum.inl (c : Int))) = (kvs.map (·.1)).any fun k => decide (k = Sum.inl (c : Int)) := by rw [List.any_map]; rfl
    rw [e, h, Bool.eq_iff_iff, List.any_eq_true, decide_eq_true_eq]
    constructor
    · rintro ⟨k, hk, hd⟩
      obtain ⟨i, hi, rfl⟩ := List.mem_map.mp hk
      have := Sum.inl.inj (of_decide_eq_true hd)
      rw [this] at hi
      exact mem_castI.mp hi
    · intro hc
      exact ⟨_, List.mem_map.mpr ⟨_, mem_castI.mpr hc, rfl⟩, decide_eq_true rfl⟩
  unfold putK
  rw [ha]
  by_cases hc : c ∈ acc
  · rw [decide_eq_true hc, if_pos rfl, if_pos hc, ← h, List.map_map]
    refine List.map_congr_left fun kv _ => ?_
    show (if kv.1 = Sum.inl (c : Int) then (kv.1, v) else kv).1 = kv.1
    split <;> rfl
  · rw [decide_eq_false hc, if_neg Bool.false_ne_true, if_neg hc, List.map_append, h]
    unfold castI
    rw [List.map_append, List.map_append]
    rfl
theorem putAll_keys (l : List Nat) : (putAll (castI l)).map (·.1) = (castI (ddN l)).map Sum.inl := by
  have h : ∀ (l acc : List Nat) (kvs : List (Key × V)), kvs.map (·.1) = (castI acc).map Sum.inl →
      ((castI l).foldl (fun acc c => putK acc (Sum.inl c) (.bl true)) kvs).map (·.1) = (castI (l.foldl (fun acc c => if c ∈ acc then acc else acc ++ [c]) acc)).map Sum.inl := by
    intro l
    induction l with
    | nil => intro acc kvs h; exact h
    | cons c r ih =>
      intro acc kvs h
      have e : castI (c :: r) = (c : Int) :: castI r := rfl
      rw [e, List.foldl_cons, List.foldl_cons]
      exact ih _ _ (putK_keys h c _)
  exact h l [] [] rfl
theorem castI_perm {a b : List Nat} (h : a.Perm b) : (castI a).Perm (castI b) := h.map _
theorem castI_asc {l : List Nat} (h : l.Pairwise (· ≤ ·)) : (castI l).Pairwise (· ≤ ·) := by
  unfold castI
  rw [List.pairwise_map]
  exact h.imp fun h => by omega
theorem sortI_castI (l : List Nat) : sortI (castI (ddN l)) = castI (sN l) := sorted_uniq ((sortI_perm _).trans (castI_perm (sN_perm l)).symm) (sortI_asc _) (castI_asc (sN_asc l))
theorem flat_castI {β : Type} (l : List β) (f : β → List Nat) : l.flatMap (fun b => castI (f b)) = castI (l.flatMap f) := by
  unfold castI
  rw [List.map_flatMap]
/-- pairs of nodes and ways -/
def PrsOk (F : Fab) (chosen : List Pr) : Prop := ∀ p ∈ chosen, p.1 < F.n ∧ Good F p.2
theorem opts_lt {F : Fab} (ok : F.Ok) {chosen : List Pr} : ∀ c ∈ F.opts chosen, c < F.m := fun c h => by
  obtain ⟨p, _, h⟩ := List.mem_flatMap.mp h
  exact (ok.op _ _ _ h).1
theorem wo_len {F : Fab} (ok : F.Ok) (d : Nat) (w : List Nat) : (F.wo d w).length ≤ 6 := by
  have := nodup_le _ (List.range F.m) (ok.nd (F.C (w.getLastD 0)).v d) fun k hk => List.mem_range.mpr (ok.op _ _ _ hk).1
  rw [List.length_range] at this
  exact Nat.le_trans this ok.m6
section
variable {P : Program} {w : World} {K : PySem.W.Frag} {mg : Str → Option Value} {base : Heap} {f : Addr} {fd : FuncData} {tbs : List Addr} {cT PT : Addr}
def spAo : Sp := spL [] (ι := Fab × List Pr) (fun i => i.1.Ok ∧ PrsOk i.1 i.2 ∧ i.2.length ≤ 1000) (fun i => [kD i.1.d, kD (dPrs i.2)]) (fun i => (i.1.aO i.2).map dI)
theorem fnAo (B : Blt mg) (F : Fun K "all_options" "all_options" (topS 13) f fd) (hm : mg "all_options" = some (.ref f)) (fO : FnK P w K mg base "way_options" ["fabric", "d", "way"] 1 spWo) : FnK P w K mg base "all_options" A13 2 spAo := by
  refine fn_l F hm sc13 (fun _ => rfl) (fun _ _ _ _ _ _ us hl => match us, hl with | [_, _], _ => rfl) fun cdv A outer s H vs Q E i hr hp _ hk hq => ?_
  obtain ⟨F, chosen⟩ := i
  have ok : F.Ok := hp.1
  have hpr : PrsOk F chosen := hp.2.1
  have hlc : chosen.length ≤ 1000 := hp.2.2
  have hq : RetL M0 ((F.aO chosen).map dI) H Q := hq
  obtain ⟨a, b, rfl, ha, hb⟩ := k2 hk
  have ha : kD F.d H a := ha
  have hb : kD (dPrs chosen) H b := hb
  have h64 : (castI (ddN (F.opts chosen))).length < 64 := by
    rw [castI_len]
    have := nodup_le _ (List.range F.m) (ddN_nd (F.opts chosen)) fun k hk => List.mem_range.mpr (opts_lt ok k (ddN_mem.mp hk))
    rw [List.length_range] at this
    have := ok.m6
    omega
  have er : (F.aO chosen).map dI = (sortI (castI (ddN (F.opts chosen)))).map .int := by
    rw [sortI_castI, map_dI]; rfl
  rw [er] at hq
  refine s_retL (M := M0) (j_callBL (ck_sortD (kvs := putAll (castI (F.opts chosen))) rfl (putAll_keys _) h64) rfl B.sorted bt_sorted (ja_cons (JDK.k ?_) ja_nil) (by decide) (by decide) rfl rfl) fun p xs H1 n x e r => hq p xs H1 n x e r
  have e0 : castI (F.opts chosen) = chosen.flatMap fun p => castI (F.wo p.1 p.2) := (flat_castI _ _).symm
  rw [e0]
  refine j_dc2 (bs := chosen) (enc := dPr) (j1 := 4) rfl sc13.nd bk13_0 (by decide) (fun s H C cl fp => pg_tup rfl (pgs_cons (pg_name (i := 2) sc13.nd rfl (Or.inl rfl)) (pgs_cons (pg_name (i := 3) sc13.nd rfl (Or.inl rfl)) pgs_nil)))
    (fun s H C cl fp => pg_name (i := 4) sc13.nd rfl (Or.inl rfl)) (JI.x (ji_tup (j_var 1 rfl hb))) ?_ (tg_pair (e1 := fun p : Pr => dI p.1) (e2 := fun p : Pr => dNs p.2) fun v w => rfl) trivial (fun H1 H2 b σ2 t gd => gd2_tm t gd) (fun σ2 v => ?_) (fun H1 p σ2 x hp gd => ?_) (fun H1 p σ2 c x hp gd hc => ?_) (fun H1 σ2 s0 H0 C cl fp => j_bl)
  · rw [flat_castI, castI_len]
    have := flat_le (f := fun p : Pr => F.wo p.1 p.2) (n := 6) (l := chosen) fun p _ => wo_len ok _ _
    have h2 : chosen.length * 6 ≤ 1000 * 6 := Nat.mul_le_mul_right _ hlc
    omega
  · show (((σ2.set 4 none).set 4 (some v)).set 4 none) = σ2.set 4 none
    rw [List.set_set, List.set_set]
  · obtain ⟨v, w, r1, r2, rfl⟩ := gd
    intro s0 H0 C cl fp
    rw [← map_dI]
    refine ji_tup ?_
    exact j_def (F, p.1, p.2) fO (by exact hr) ⟨ok, (hpr p hp).1, (hpr p hp).2.ne, (hpr p hp).2.lt⟩ no_tabs (ja_cons (j_var 0 rfl (Mn.mono x ha)) (ja_cons (j_var 2 rfl (K := kI (p.1 : Int)) r1) (ja_cons (j_var 3 rfl (K := kD (dNs p.2)) r2) ja_nil)))
  · obtain ⟨v, w, r1, r2, rfl⟩ := gd
    intro s0 H0 C cl fp
    exact j_var 4 rfl kI_of
def spHb : Sp := spK [] (ι := List Pr) (fun i => (heldL i).length ≤ 1000) (fun i => [kD (dPrs i)]) (fun i => kOut (heldL i))
theorem fnHb (B : Blt mg) (F : Fun K "held_by" "held_by" (topS 14) f fd) (hm : mg "held_by" = some (.ref f)) : FnK P w K mg base "held_by" A14 1 spHb := by
  refine fn_k F hm sc14 (fun _ => rfl) (fun _ _ _ _ _ _ us hl => match us, hl with | [_], _ => rfl) fun cdv A outer s H vs Q E chosen hr hlc _ hk hq => ?_
  obtain ⟨b, rfl, hb⟩ := k1 hk
  refine s_retDK (M := M0) (kvs := putAll (castI (heldL chosen))) ?_ fun p H1 n x e => hq _ H1 x (kOut_put e)
  have e0 : castI (heldL chosen) = chosen.flatMap fun p => castI p.2 := (flat_castI _ _).symm
  rw [e0]
  refine j_dc2 (bs := chosen) (enc := dPr) (j1 := 3) rfl sc14.nd bk14_0 (by decide) (fun s H C cl fp => pg_tup rfl (pgs_cons (pg_name (i := 1) sc14.nd rfl (Or.inl rfl)) (pgs_cons (pg_name (i := 2) sc14.nd rfl (Or.inl rfl)) pgs_nil)))
    (fun s H C cl fp => pg_name (i := 3) sc14.nd rfl (Or.inl rfl)) (JI.x (ji_tup (j_var 0 rfl hb))) ?_ (tg_pair (e1 := fun p : Pr => dI p.1) (e2 := fun p : Pr => dNs p.2) fun v w => rfl) trivial (fun H1 H2 b σ2 t gd => gd2_tm t gd) (fun σ2 v => ?_) (fun H1 p σ2 x hp gd => ?_) (fun H1 p σ2 c x hp gd hc => ?_) (fun H1 σ2 s0 H0 C cl fp => j_bl)
  · rw [flat_castI, castI_len]
    show (heldL chosen).length ≤ 1000000
    omega
  · show (((σ2.set 3 none).set 3 (some v)).set 3 none) = σ2.set 3 none
    rw [List.set_set, List.set_set]
  · obtain ⟨v, w, r1, r2, rfl⟩ := gd
    intro s0 H0 C cl fp
    rw [← map_dI]
    exact ji_tup (j_var 2 rfl (K := kD (dNs p.2)) r2)
  · obtain ⟨v, w, r1, r2, rfl⟩ := gd
    intro s0 H0 C cl fp
    exact j_var 3 rfl kI_of
end
end K68

set_option Elab.async false
set_option linter.all false
set_option maxRecDepth 100000
set_option maxHeartbeats 1000000
/-! K68, text B10: is_closed, open_channels, idle_order. -/
namespace K68
open PySem PySem.Spec L2
open PyProof.Rows hiding St
theorem dist_dd (l : List Nat) : dist l = (ddN l).length := by
  unfold dist
  rw [← castI_len (ddN l)]
  refine same_len _ _ (dd_nd _) (castI_nodup.mpr (ddN_nd l)) fun k => ?_
  rw [dd_mem]
  unfold castI
  rw [List.mem_map, List.mem_map]
  exact ⟨fun ⟨a, h, e⟩ => ⟨a, ddN_mem.mpr h, e⟩, fun ⟨a, h, e⟩ => ⟨a, ddN_mem.mp h, e⟩⟩
theorem aO_len {F : Fab} (ok : F.Ok) (chosen : List Pr) : (F.aO chosen).length ≤ 6 := by
  have := nodup_le _ (List.range F.m) (sN_nd (F.opts chosen)) fun k hk => List.mem_range.mpr (opts_lt ok k (sN_mem.mp hk))
  rw [List.length_range] at this
  exact Nat.le_trans this ok.m6
theorem ok_notInLN {M : Md} {X : Cx} {c : Nat} {cs : List Nat} : OpK M (compareOp .NotIn) X (kI (c : Int)) (kL M (cs.map dI)) (kB (!decide (c ∈ cs))) := by
  rw [← dec_castI]
  have := ok_notInL (M := M) (X := X) (c := (c : Int)) (cs := castI cs)
  rw [← map_dI] at this
  exact this
theorem ok_notInO {X : Cx} {c : Nat} {out : List Nat} (hu : X.A.units + 1 < cLine) : OpK M0 (compareOp .NotIn) X (kI (c : Int)) (kOut out) (kB (!decide (c ∈ out))) := ⟨_, op_notInD hu, fun H x y Q a ⟨kvs, hk, b⟩ q => by
  obtain ⟨p, rfl, e, _⟩ := b
  rw [kI_eq a]
  refine ⟨p, _, rfl, .inl ⟨kvs, Sum.inl (c : Int), e, rfl, rfl⟩, ?_⟩
  have := hk c
  unfold hasK at this
  rw [this]
  exact q _ H (Xt.refl H) kB_of⟩
section
variable {M : Md} {X : Cx} {a : Expr} {σ : L2.St} {H : Hp} {p pos : Pos}
theorem j_lenPr {ps : List Pr} (B : Blt X.mg) (h : JK M X a σ H (kD (dPrs ps))) (hg : Gl X "len" := by rfl) (hs : starEach [a] X.env = (false, eval a X.env) :: starEach [] X.env := by rfl) : JK M X (.Call (.Name "len" p) [a] [] pos) σ H (kI (ps.length : Int)) := by
  have := j_lenT (p := p) (pos := pos) B h hg hs
  rw [List.length_map] at this
  exact this
end
section
variable {P : Program} {w : World} {K : PySem.W.Frag} {mg : Str → Option Value} {base : Heap} {f : Addr} {fd : FuncData} {tbs : List Addr} {cT PT : Addr}
structure IcI where
  F : Fab
  chosen : List Pr
  barred : List Nat
structure IcI.ok (i : IcI) : Prop where
  F : i.F.Ok
  pr : PrsOk i.F i.chosen
  l1 : i.chosen.length ≤ 1000
  l2 : i.barred.length ≤ 1000
  l3 : (heldL i.chosen).length ≤ 1000
def IcI.ks (i : IcI) : List Kn := [kD i.F.d, kD (dPrs i.chosen), kD (dNs i.barred)]
def spIc (tbs : List Addr) : Sp := spK tbs IcI.ok IcI.ks (fun i => kB (i.F.isC i.chosen i.barred))
theorem fnIc (B : Blt mg) (F : FunT K "is_closed" "is_closed" (topS 16) f fd cT) (hm : mg "is_closed" = some (.ref f)) (TB : GxR.TabB base mg cT PT) (hPT : PT ∈ tbs) (fA : FnK P w K mg base "all_options" A13 2 spAo) : FnK P w K mg base "is_closed" A16 3 (spIc tbs) := by
  refine fn_kT F hm sc16 (fun _ => rfl) (fun _ _ _ _ _ _ us hl => match us, hl with | [_, _, _], _ => rfl) fun A outer s H vs Q E i hr hp ht hk hq => ?_
  obtain ⟨F, chosen, barred⟩ := i
  have ok : F.Ok := hp.F
  have hpr : PrsOk F chosen := hp.pr
  have l1 : chosen.length ≤ 1000 := hp.l1
  have l2 : barred.length ≤ 1000 := hp.l2
  have hq : RetK M0 (kB (F.isC chosen barred)) H Q := hq
  obtain ⟨a, b, c, rfl, ha, hb, hc⟩ := k3 hk
  have ha : kD F.d H a := ha
  have hb : kD (dPrs chosen) H b := hb
  have hc : kD (dNs barred) H c := hc
  refine s_when (M := M0) (t := decide (chosen.length = 0)) (JT.is (jt_cmp ok_eqI (j_lenPr B (j_var 1 rfl hb)) j_int) (decN (b := 0))) (fun q H1 x1 => ?_) fun q H1 x1 => ?_
  · have e : F.isC chosen barred = decide ((dist barred : Int) = (F.m : Int)) := by
      unfold Fab.isC
      rw [if_pos (of_decide_eq_true q), ← dist_dd, decN]
    rw [e] at hq
    exact s_ret (M := M0) (j_cmp ok_eqI (j_lenS B (j_setN B rfl l2 (j_var 2 rfl (Mn.mono x1 hc)))) (j_lenCh B (j_n1 (j_f0 (j_var 0 rfl (Mn.mono x1 ha)))))) fun v H2 x2 k => hq v H2 (x1.trans x2) k
  · have e : F.isC chosen barred = (F.aO chosen).any fun c => decide (c ∈ barred) := by
      unfold Fab.isC
      rw [if_neg (of_decide_eq_false q)]
    rw [e] at hq
    refine s_ret (M := M0) (j_any1 (k := 1) (bs := F.aO chosen) (enc := dI) (t := fun c => decide (c ∈ barred)) hr rfl B.any TB rfl ⟨bk16_0, rfl, by decide +kernel, rfl⟩ sc16.nd (x1.tab _ (ht _ hPT)) (JIL.x (jil_of (JL.k (j_defL (F, chosen) fA hr ⟨ok, hpr, l1⟩ no_tabs (ja_cons (j_var 0 rfl (Mn.mono x1 ha)) (ja_cons (j_var 1 rfl (Mn.mono x1 hb)) ja_nil)))))) (tg_name fun v => rfl)
      (fun s0 H0 cl C code bi fp A' pn => pg_name sc16.nd (i := 3) rfl (Or.inl rfl)) (fun H3 c' σ2 x3 hmem gd => ?_) (hb := bt_any)) fun v H2 x2 k => hq v H2 (x1.trans x2) k
    obtain ⟨v, hv, rfl⟩ := gd
    intro s0 H0 cl C code bi fp A' pn hrm
    exact j_cmp ok_inN (j_var 3 rfl (K := kI (c' : Int)) hv) (j_var 2 rfl (Mn.mono (x1.trans x3) hc))
def spOc : Sp := spL [] IcI.ok IcI.ks (fun i => (i.F.opC i.chosen i.barred).map dI)
theorem fnOc (B : Blt mg) (F : Fun K "open_channels" "open_channels" (topS 17) f fd) (hm : mg "open_channels" = some (.ref f)) (fA : FnK P w K mg base "all_options" A13 2 spAo) (fH : FnK P w K mg base "held_by" A14 1 spHb) : FnK P w K mg base "open_channels" A17 3 spOc := by
  refine fn_l F hm sc17 (fun _ => rfl) (fun _ _ _ _ _ _ us hl => match us, hl with | [_, _, _], _ => rfl) fun cdv A outer s H vs Q E i hr hp ht hk hq => ?_
  obtain ⟨F, chosen, barred⟩ := i
  have ok : F.Ok := hp.F
  have hpr : PrsOk F chosen := hp.pr
  have l1 : chosen.length ≤ 1000 := hp.l1
  have l2 : barred.length ≤ 1000 := hp.l2
  have l3 : (heldL chosen).length ≤ 1000 := hp.l3
  have hq : RetL M0 ((F.opC chosen barred).map dI) H Q := hq
  have hu := hu_of hr
  obtain ⟨a, b, c, rfl, ha, hb, hc⟩ := k3 hk
  have ha : kD F.d H a := ha
  have hb : kD (dPrs chosen) H b := hb
  have hc : kD (dNs barred) H c := hc
  have h6 := ok.m6
  refine s_asg (M := M0) 3 sc17.nd (j_def chosen fH (hr.mono (by decide : 1 ≤ 2)) l3 no_tabs (ja_cons (j_var 1 rfl hb) ja_nil)) fun v3 H1 x1 k3 => ?_
  have k3 : kOut (heldL chosen) H1 v3 := k3
  refine s_asg (M := M0) 4 sc17.nd (K := kL M0 ((if 0 < chosen.length then F.aO chosen else List.range F.m).map dI)) (j_if (t := decide ((0 : Int) < (chosen.length : Int))) (jt_cmp ok_gt (j_lenPr B (j_var 1 rfl (Mn.mono x1 hb))) j_int) (fun q => ?_) fun q => ?_) fun v4 H2 x2 k4 => ?_
  · rw [if_pos (by have := of_decide_eq_true q; omega)]
    exact JL.k (j_defL (F, chosen) fA hr ⟨ok, hpr, l1⟩ no_tabs (ja_cons (j_var 0 rfl (Mn.mono x1 ha)) (ja_cons (j_var 1 rfl (Mn.mono x1 hb)) ja_nil)))
  · rw [if_neg (by have := of_decide_eq_false q; omega)]
    exact JL.k (j_listRange (n := F.m) rfl rfl B.list rfl B.range (j_lenCh B (j_n1 (j_f0 (j_var 0 rfl (Mn.mono x1 ha))))) (by omega))
  · refine s_retL (M := M0) (ds := (F.opC chosen barred).map dI) ?_ fun p xs H3 n3 x3 e3 r3 => hq p xs H3 (x1.free _ (x2.free _ n3)) ((x1.trans x2).trans x3) e3 r3
    unfold Fab.opC
    refine j_lc (bs := if 0 < chosen.length then F.aO chosen else List.range F.m) (enc := dI) rfl sc17.nd bk17_0 (fun s H C cl fp => pg_name sc17.nd (i := 5) rfl (Or.inl rfl)) (JIL.x (jil_of (j_var 4 rfl k4))) ?_ (tg_name fun v => rfl) trivial (fun H9 c' σ2 x9 hm gd => jbts_one ?_) (fun H9 c' σ2 x9 hm gd _ => ?_)
    · by_cases q : 0 < chosen.length
      · rw [if_pos q]
        have := aO_len ok chosen
        omega
      · rw [if_neg q, List.length_range]
        omega
    · obtain ⟨v9, hv9, rfl⟩ := gd
      intro s0 H0 C cl fp
      exact jt_and (jt_cmp (ok_notInO hu) (j_var 5 rfl (K := kI (c' : Int)) hv9) (j_var 3 rfl (Mn.mono (x2.trans x9) k3))) fun _ => jt_cmp ok_notInN (j_var 5 rfl (K := kI (c' : Int)) hv9) (j_var 2 rfl (Mn.mono ((x1.trans x2).trans x9) hc))
    · obtain ⟨v9, hv9, rfl⟩ := gd
      intro s0 H0 C cl fp
      exact j_var 5 rfl hv9
end
end K68

set_option Elab.async false
set_option linter.all false
set_option maxRecDepth 100000
set_option maxHeartbeats 1000000
/-! K68, text B11: idle_order. -/
namespace K68
open PySem PySem.Spec L2
open PyProof.Rows hiding St
theorem st_pre (F : Fab) (L : Nat) (chosen : List Pr) (barred o : List Nat) (c : Nat) : ∃ t, F.st1 L chosen barred o c = o ++ t := by
  unfold Fab.st1
  split
  · exact ⟨[c], rfl⟩
  · exact ⟨[], by simp⟩
theorem ps_succ (F : Fab) (L : Nat) (chosen : List Pr) (barred o : List Nat) (j : Nat) : F.ps L chosen barred o (j + 1) = F.st1 L chosen barred (F.ps L chosen barred o j) j := by
  unfold Fab.ps
  rw [List.range_succ, List.foldl_append]
  rfl
theorem ps_pre (F : Fab) (L : Nat) (chosen : List Pr) (barred o : List Nat) : ∀ j, ∃ t, F.ps L chosen barred o j = o ++ t
  | 0 => ⟨[], by simp [Fab.ps]⟩
  | j + 1 => by
    obtain ⟨t, e⟩ := ps_pre F L chosen barred o j
    obtain ⟨t2, e2⟩ := st_pre F L chosen barred (F.ps L chosen barred o j) j
    rw [ps_succ, e2, e]
    exact ⟨t ++ t2, by rw [List.append_assoc]⟩
section
variable {M : Md} {X : Cx} {a : Expr} {σ : L2.St} {H : Hp} {p pos : Pos} {ds : List PyData}
theorem j_tupL (B : Blt X.mg) (h : JK M X a σ H (kL M ds)) (hg : Gl X "tuple" := by rfl) (hs : starEach [a] X.env = (false, eval a X.env) :: starEach [] X.env := by rfl) : JK M X (.Call (.Name "tuple" p) [a] [] pos) σ H (kD (.tuple ds)) :=
  j_callTy ck_tupL hg B.tuple bt_tuple (ja_cons h ja_nil hs) (by decide) (by decide) hs rfl
end
section
variable {P : Program} {w : World} {K : PySem.W.Frag} {mg : Str → Option Value} {base : Heap} {f : Addr} {fd : FuncData} {tbs : List Addr} {cT PT : Addr}
structure IoI where
  F : Fab
  L : Nat
  chosen : List Pr
  barred : List Nat
structure IoI.ok (i : IoI) : Prop where
  F : i.F.Ok
  l1 : (i.barred ++ heldL i.chosen).length ≤ 900
def IoI.ks (i : IoI) : List Kn := [kD i.F.d, kI (i.L : Int), kD (dPrs i.chosen), kD (dNs i.barred)]
def spIo (tbs : List Addr) : Sp := spL tbs IoI.ok IoI.ks (fun i => (i.F.idle i.L i.chosen i.barred).map dI)
theorem fnIo (B : Blt mg) (F : Fun K "idle_order" "idle_order" (topS 15) f fd) (hm : mg "idle_order" = some (.ref f)) (fI : FnK P w K mg base "is_idle" A11 5 (spId tbs)) (fH : FnK P w K mg base "held_by" A14 1 spHb) : FnK P w K mg base "idle_order" A15 6 (spIo tbs) := by
  refine fn_l F hm sc15 (fun _ => rfl) (fun _ _ _ _ _ _ us hl => match us, hl with | [_, _, _, _], _ => rfl) fun cdv A outer s H vs Q E i hr hp ht hk hq => ?_
  obtain ⟨F, L, chosen, barred⟩ := i
  have ok : F.Ok := hp.F
  have l1 : (barred ++ heldL chosen).length ≤ 900 := hp.l1
  have l2 : barred.length ≤ 900 := by rw [List.length_append] at l1; omega
  have l3 : (heldL chosen).length ≤ 900 := by rw [List.length_append] at l1; omega
  have hq : RetL M0 ((F.idle L chosen barred).map dI) H Q := hq
  obtain ⟨a, b, c, e, rfl, ha, hb, hc, he⟩ := k4 hk
  have ha : kD F.d H a := ha
  have hb : kI (L : Int) H b := hb
  have hc : kD (dPrs chosen) H c := hc
  have he : kD (dNs barred) H e := he
  have hu := hu_of hr
  have h6 := ok.m6
  refine s_asgL (M := M0) 4 sc15.nd (j_callTyL (ck_listT (ds := barred.map dI)) rfl B.list bt_list (ja_cons (j_var 3 rfl he) ja_nil) (by decide) (by decide) rfl rfl) fun po xo0 H1 n1 x1 e1 r1 => ?_
  refine s_asg (M := M0) 5 sc15.nd (j_def chosen fH (hr.mono (by decide : 1 ≤ 5)) (by show (heldL chosen).length ≤ 1000; omega) no_tabs (ja_cons (j_var 2 rfl (Mn.mono x1 hc)) ja_nil)) fun v5 H2 x2 k5 => ?_
  have k5 : kOut (heldL chosen) H2 v5 := k5
  refine s_asgL (M := M0) 6 sc15.nd j_lst0 fun pr xr0 H3 n3 x3 e3 r3 => ?_
  refine s_asg (M := M0) 7 sc15.nd (j_bl (i := true)) fun v7 H4 x4 k7 => ?_
  have x12 := x1.trans x2
  have x13 := x12.trans x3
  have x14 := x13.trans x4
  have e1' := (x2.trans x3).keep _ _ e1 (nt_lst _) id
  have hne : po ≠ pr := fun z => by rw [z] at e1; have := x2.keep _ _ e1 (nt_lst _) id; rw [n3] at this; cases this
  have np : H pr = none := x12.free _ n3
  have n2p : H2 pr = none := n3
  have n0 : H po = none := n1
  refine s_while (M := M0) (fun m σ' H' => ∃ k o xo xr flag o8, σ' = [some a, some b, some c, some e, some (.ref po), some v5, some (.ref pr), some (.bl flag), o8] ∧ OL H' po xo ((barred ++ o).map dI) ∧ OL H' pr xr (o.map dI) ∧ Xt M0 H H' ∧ Tm H4 H' ∧ kOut (heldL chosen) H' v5 ∧ Ord F L chosen barred o ∧
    (if flag = true then F.io L chosen barred k o = F.idle L chosen barred ∧ F.m + 1 ≤ k + o.length ∧ m = k + 1 else o = F.idle L chosen barred ∧ m = 0)) (F.m + 2)
    ⟨F.m + 1, [], xo0, xr0, true, none, by rw [kB_eq k7]; rfl, ⟨x4.keep _ _ e1' (nt_lst _) id, ?_⟩, ⟨x4.keep _ _ e3 (nt_lst _) id, RpL.tm x4.tm _ r3⟩, x14, Tm.refl _, Mn.mono (x3.trans x4) k5, Ord.nil, rfl, Nat.le_refl _, rfl⟩ ?_
  · rw [List.append_nil]
    exact RpL.tm ((x2.trans x3).trans x4).tm _ r1
  rintro m σ' H' ⟨k, o, xo, xr, flag, o8, rfl, oo, or, x, tm4, kh, ord, hfl⟩
  refine ⟨flag, jt_val (j_var 7 rfl kB_of), fun hf H5 x5 => ?_, fun hf H5 x5 => ?_⟩
  · subst hf
    rw [if_pos rfl] at hfl
    obtain ⟨hio, hk1, rfl⟩ := hfl
    have hol := ord.len
    obtain ⟨k', rfl⟩ : ∃ k', k = k' + 1 := ⟨k - 1, by omega⟩
    have hio : (if o.length < (F.ps L chosen barred o F.m).length then F.io L chosen barred k' (F.ps L chosen barred o F.m) else o) = F.idle L chosen barred := hio
    have x05 := x.trans x5
    refine s_asg (M := M0) 7 sc15.nd (j_bl (i := false)) fun v7 H6 x6 k7 => ?_
    have x06 := x05.trans x6
    refine s_for (M := M0) (pg_name (i := 8) sc15.nd rfl (Or.inl rfl)) (ji_rng (n := F.m) rfl B.range (j_lenCh B (j_n1 (j_f0 (j_var 0 rfl (Mn.mono x06 ha))))) (by omega)) rfl fun H7 x7 => ?_
    have x07 := x06.trans x7
    refine ⟨fun j σ' H' => ∃ xo xr o8, σ' = [some a, some b, some c, some e, some (.ref po), some v5, some (.ref pr), some (.bl (decide (o.length < (F.ps L chosen barred o j).length))), o8] ∧ OL H' po xo ((barred ++ F.ps L chosen barred o j).map dI) ∧ OL H' pr xr ((F.ps L chosen barred o j).map dI) ∧ Xt M0 H H' ∧ Tm H7 H' ∧ Tm H4 H' ∧ kOut (heldL chosen) H' v5,
      ⟨xo, xr, o8, ?_, ((oo.up x5).up x6).up x7, ((or.up x5).up x6).up x7, x07, Tm.refl _, tm4.trans ((x5.trans x6).trans x7).tm, Mn.mono ((x5.trans x6).trans x7) kh⟩, fun j σ' H' ⟨_, _, _, _, _, _, _, t, _, _⟩ => t, ?_, ?_⟩
    · rw [kB_eq k7]
      have : decide (o.length < (F.ps L chosen barred o 0).length) = false := decide_eq_false (Nat.lt_irrefl _)
      rw [this]
      rfl
    · rintro j dd v8 σ' H8 hj rv ⟨xo, xr, o8, rfl, oo8, or8, x8, t8, t48, kh8⟩
      have hj' : j < F.m := by
        have := (List.getElem?_eq_some_iff.mp hj).1
        rw [rangeD_len] at this; exact this
      rw [rangeD_at hj'] at hj
      cases hj
      show WSs _ _ _ _ _
      obtain ⟨ordj, hlj⟩ := ord.ps j (by omega)
      have holj := ordj.len
      generalize hoj : F.ps L chosen barred o j = oj at *
      have hsucc := ps_succ F L chosen barred o j
      rw [hoj] at hsucc
      have hcl : (barred ++ oj ++ heldL chosen).length ≤ 1000 := by
        rw [List.length_append] at l1
        rw [List.length_append, List.length_append]
        omega
      refine s_when (M := M0) (t := !decide (j ∈ heldL chosen) && (!decide (j ∈ barred ++ oj) && decide (F.cand L chosen (barred ++ oj) j = []))) (jw_jt (jw_and (jt_cmp (ok_notInO hu) (j_var 8 rfl (K := kI (j : Int)) rv) (j_var 5 rfl kh8)) fun _ => jw_and (jt_cmp ok_notInLN (j_var 8 rfl (K := kI (j : Int)) rv) (j_var 4 rfl oo8.kl)) fun _ =>
        jw_and1 (jt_val (j_def (⟨F, L, chosen, barred ++ oj, j⟩ : CdI) fI hr ⟨ok, hj', hcl⟩ (tabs_up x8 ht) (ja_cons (j_var 0 rfl (Mn.mono x8 ha)) (ja_cons (j_var 1 rfl (Mn.mono x8 hb)) (ja_cons (j_var 2 rfl (Mn.mono x8 hc)) (ja_cons (K := kD (dNs (barred ++ oj))) (j_tupL (ds := (barred ++ oj).map dI) B (j_var 4 rfl oo8.kl)) (ja_cons (j_var 8 rfl (K := kI (j : Int)) rv) ja_nil))))))))) (fun q H9 x9 => ?_) fun q H9 x9 => ?_
      · have est : F.st1 L chosen barred oj j = oj ++ [j] := by unfold Fab.st1; rw [if_pos q]
        rw [est] at hsucc
        have or9 := or8.up x9
        have oo9 := oo8.up x9
        have hn' : pr ≠ po := hne.symm
        have l9 := or9.len
        have l9' := oo9.len
        refine s_append (M := M0) 6 (K := kI (j : Int)) rfl or9.1 (j_var 8 rfl (Mn.mono (M := M0) (K := kI (j : Int)) x9 rv)) (by rw [l9, List.length_map]; omega) id fun v10 H10 x10 kv e10 => ?_
        have or10 := (or9.up x10).app (d := dI j) kv
        have oo10 := (oo9.up x10).other (o := .lst (xr ++ [v10])) e10 hne
        have rv10 : kI (j : Int) (upd H10 pr (.lst (xr ++ [v10]))) v8 := Rp.tm ((x9.trans x10).tm.trans (Tm.lst e10)) _ rv
        have x010 : Xt M0 H (upd H10 pr (.lst (xr ++ [v10]))) := (x8.trans (x9.trans x10)).mut np
        refine s_append (M := M0) 4 (K := kI (j : Int)) rfl oo10.1 (j_var 8 rfl rv10) (by rw [oo10.len, List.length_map, List.length_append]; omega) id fun v11 H11 x11 kv11 e11 => ?_
        have oo11 := (oo10.up x11).app (d := dI j) kv11
        have or11 := (or10.up x11).other (o := .lst (xo ++ [v11])) e11 hn'
        have x011 : Xt M0 H (upd H11 po (.lst (xo ++ [v11]))) := (x010.trans x11).mut n0
        have tmAll : Tm H8 (upd H11 po (.lst (xo ++ [v11]))) := (((x9.trans x10).tm.trans (Tm.lst e10)).trans x11.tm).trans (Tm.lst e11)
        refine s_asg (M := M0) 7 sc15.nd (j_bl (i := true)) fun v12 H12 x12 k12 => s_nil (s_nil ⟨xo ++ [v11], xr ++ [v10], some v8, ?_, ?_, ?_, x011.trans x12, (t8.trans tmAll).trans x12.tm, (t48.trans tmAll).trans x12.tm, ?_⟩)
        · have : decide (o.length < (F.ps L chosen barred o (j + 1)).length) = true := by
            rw [hsucc, List.length_append, List.length_singleton]
            exact decide_eq_true (by omega)
          rw [this, kB_eq k12]
          rfl
        · rw [hsucc, ← List.append_assoc, List.map_append]
          exact oo11.up x12
        · rw [hsucc, List.map_append]
          exact or11.up x12
        · obtain ⟨kvs, hkv, p, rfl, rd, hm0⟩ := kh8
          refine ⟨kvs, hkv, p, rfl, ?_, hm0⟩
          have nlst : ∀ {H : Hp} {q : Addr} {ys : List V}, Rd H p (.dK kvs) → H q = some (.lst ys) → p ≠ q := fun {H q ys} h hq z => by
            subst z
            rcases h with h | ⟨oo, h⟩
            · rw [h] at hq; cases hq
            · rw [h] at hq; cases hq
          have up : ∀ {H H' : Hp}, Xt M0 H H' → Rd H p (.dK kvs) → Rd H' p (.dK kvs) := fun {H H'} x h => by
            rcases h with h | ⟨oo, h⟩
            · exact .inl (x.keep _ _ h (nt_dK _) id)
            · exact .inr ⟨oo, x.keep _ _ h (nt_frz _ _) id⟩
          have mt : ∀ {H : Hp} {q : Addr} {ys zs : List V}, H q = some (.lst ys) → Rd H p (.dK kvs) → Rd (upd H q (.lst zs)) p (.dK kvs) := fun {H q ys zs} hq h => by
            have := nlst h hq
            rcases h with h | ⟨oo, h⟩
            · exact .inl (by rw [upd_ne this]; exact h)
            · exact .inr ⟨oo, by rw [upd_ne this]; exact h⟩
          exact up x12 (mt e11 (up x11 (mt e10 (up (x9.trans x10) rd))))
      · have est : F.st1 L chosen barred oj j = oj := by unfold Fab.st1; rw [if_neg (by rw [q]; exact Bool.false_ne_true)]
        rw [est] at hsucc
        refine s_nil ⟨xo, xr, some v8, ?_, ?_, ?_, x8.trans x9, t8.trans x9.tm, t48.trans x9.tm, Mn.mono x9 kh8⟩
        · rw [hsucc]; rfl
        · rw [hsucc]; exact oo8.up x9
        · rw [hsucc]; exact or8.up x9
    · rintro σ' H8 ⟨xo, xr, o8, rfl, oo8, or8, x8, t8, t48, kh8⟩
      rw [rangeD_len] at oo8 or8
      obtain ⟨ordm, hlm⟩ := ord.ps F.m (Nat.le_refl _)
      by_cases q : o.length < (F.ps L chosen barred o F.m).length
      · rw [if_pos q] at hio
        refine s_nil ⟨k' + 1, by omega, k', F.ps L chosen barred o F.m, xo, xr, true, o8, ?_, oo8, or8, x8, t48, kh8, ordm, ?_⟩
        · rw [rangeD_len, decide_eq_true q]
        · rw [if_pos rfl]
          exact ⟨hio, by omega, rfl⟩
      · rw [if_neg q] at hio
        obtain ⟨t, et⟩ := ps_pre F L chosen barred o F.m
        have ht0 : t = [] := by
          rw [et, List.length_append] at q
          exact List.length_eq_zero_iff.mp (by omega)
        rw [ht0, List.append_nil] at et
        rw [et] at oo8 or8
        refine s_nil ⟨0, by omega, 0, o, xo, xr, false, o8, ?_, oo8, or8, x8, t48, kh8, ord, ?_⟩
        · rw [rangeD_len, decide_eq_false q]
        · rw [if_neg Bool.false_ne_true]
          exact ⟨hio, rfl⟩
  · subst hf
    rw [if_neg Bool.false_ne_true] at hfl
    obtain ⟨rfl, rfl⟩ := hfl
    refine s_ret (M := M0) (K := kE (.ref pr)) (j_var 6 rfl rfl) fun v H6 x6 k => ?_
    have k : v = .ref pr := k
    subst k
    have o6 := (or.up x5).up x6
    exact hq pr xr H6 np ((x.trans x5).trans x6) o6.1 o6.2
end
end K68

set_option Elab.async false
set_option linter.all false
set_option maxRecDepth 100000
/-! K68, text M3: candidates are ways, and all ways are met. -/
namespace K68
open PySem PySem.Spec L2 PySem.W
open PyProof.Rows hiding St
/-- each channel leads on to the next -/
def Chn (F : Fab) (d : Nat) : List Nat → Prop
  | [] => True
  | [_] => True
  | a :: b :: r => b ∈ F.op (F.C a).v d ∧ Chn F d (b :: r)
theorem Chn.tail {F : Fab} {d a : Nat} {w : List Nat} (h : Chn F d (a :: w)) : Chn F d w := by
  cases w with
  | nil => trivial
  | cons b r => exact h.2
theorem Chn.snoc {F : Fab} {d c : Nat} : ∀ {w : List Nat}, w ≠ [] → (Chn F d (w ++ [c]) ↔ Chn F d w ∧ c ∈ F.wo d w)
  | [], h => absurd rfl h
  | [a], _ => ⟨fun h => ⟨trivial, h.1⟩, fun h => ⟨h.2, trivial⟩⟩
  | a :: b :: r, _ => by
    have e : F.wo d (a :: b :: r) = F.wo d (b :: r) := by
      unfold Fab.wo
      rw [List.getLastD_cons, List.getLastD_cons, List.getLastD_cons]
    show (b ∈ F.op (F.C a).v d ∧ Chn F d (b :: (r ++ [c]))) ↔ (b ∈ F.op (F.C a).v d ∧ Chn F d (b :: r)) ∧ c ∈ F.wo d (a :: b :: r)
    rw [e]
    have ih := Chn.snoc (F := F) (d := d) (c := c) (w := b :: r) (by simp)
    have e2 : b :: (r ++ [c]) = (b :: r) ++ [c] := rfl
    rw [e2, ih, and_assoc]
theorem Chn.left {F : Fab} {d : Nat} : ∀ {a b : List Nat}, Chn F d (a ++ b) → Chn F d a
  | [], _, _ => trivial
  | [x], _, _ => trivial
  | x :: y :: r, b, h => ⟨h.1, Chn.left (a := y :: r) (b := b) h.2⟩
theorem Chn.right {F : Fab} {d : Nat} : ∀ {a b : List Nat}, Chn F d (a ++ b) → Chn F d b
  | [], _, h => h
  | x :: r, b, h => Chn.right (a := r) (b := b) (Chn.tail h)
def Off (out w : List Nat) : Prop := ∀ c ∈ w, c ∉ out
theorem lB_sound {F : Fab} (ok : F.Ok) {L : Nat} {out : List Nat} {d : Nat} : ∀ (k : Nat) (w : List Nat), Good F w → F.m + 1 - w.length = k → Off out w → Chn F d w → ∀ x ∈ F.lB L out d w, (∃ t, x = w ++ t) ∧ Off out x ∧ Chn F d x ∧ F.ll x ≤ L
  | 0, w, g, h, _, _ => by have := g.len; have := g.pos; omega
  | k + 1, w, g, h, ho, hc => by
    intro x hx
    rw [lB_eq ok g] at hx
    by_cases c : F.ll w ≤ L
    · rw [if_pos c] at hx
      rcases List.mem_cons.mp hx with z | z
      · rw [z]; exact ⟨⟨[], by simp⟩, ho, hc, c⟩
      · obtain ⟨y, hy, hz⟩ := List.mem_flatMap.mp z
        have hy := List.mem_reverse.mp hy
        obtain ⟨g2, e2⟩ := kB_good ok g hy
        obtain ⟨ch, h1, h2, h3, rfl⟩ := kB_mem.mp hy
        obtain ⟨⟨t, e⟩, i2, i3, i4⟩ := lB_sound ok k (w ++ [ch]) g2 (by omega) (fun q hq => by
          rcases List.mem_append.mp hq with q1 | q1
          · exact ho q q1
          · rw [List.mem_singleton.mp q1]; exact h3) ((Chn.snoc g.ne).mpr ⟨hc, h1⟩) x hz
        exact ⟨⟨ch :: t, by rw [e, List.append_assoc]; rfl⟩, i2, i3, i4⟩
    · rw [if_neg c] at hx
      cases hx
theorem lA_sound {F : Fab} {L : Nat} {out : List Nat} {d : Nat} : ∀ (k : Nat) (w : List Nat), Good F w → F.m + 1 - w.length = k → Off out w → Chn F d w → w.headD 0 ∈ F.op (F.C (w.headD 0)).u d → ∀ x ∈ F.lA L out d w, (∃ t, x = t ++ w) ∧ Off out x ∧ Chn F d x ∧ F.ll x ≤ L ∧ x.headD 0 ∈ F.op (F.C (x.headD 0)).u d
  | 0, w, g, h, _, _, _ => by have := g.len; have := g.pos; omega
  | k + 1, w, g, h, ho, hc, hh => by
    intro x hx
    rw [lA_eq g] at hx
    by_cases c : F.ll w ≤ L
    · rw [if_pos c] at hx
      rcases List.mem_cons.mp hx with z | z
      · rw [z]; exact ⟨⟨[], by simp⟩, ho, hc, c, hh⟩
      · obtain ⟨y, hy, hz⟩ := List.mem_flatMap.mp z
        have hy := List.mem_reverse.mp hy
        obtain ⟨g2, e2⟩ := kA_good g hy
        obtain ⟨ch, h0, h1, rfl⟩ := kA_mem.mp hy
        obtain ⟨a1, a2, a3, a4⟩ := okA_iff.mp h1
        obtain ⟨⟨t, e⟩, i2, i3, i4, i5⟩ := lA_sound k (ch :: w) g2 (by omega) (fun q hq => by
          rcases List.mem_cons.mp hq with q1 | q1
          · rw [q1]; exact a3
          · exact ho q q1) (by
          cases w with
          | nil => trivial
          | cons b r => exact ⟨by rw [a1]; exact hh, hc⟩) a4 x hz
        exact ⟨⟨t ++ [ch], by rw [e, List.append_assoc]; rfl⟩, i2, i3, i4, i5⟩
    · rw [if_neg c] at hx
      cases hx
/-- a way to d of length at most L that does not end at d -/
structure Way (F : Fab) (L d : Nat) (w : List Nat) : Prop where
  good : Good F w
  chn : Chn F d w
  head : w.headD 0 ∈ F.op (F.C (w.headD 0)).u d
  ll : F.ll w ≤ L
  last : (F.C (w.getLastD 0)).v ≠ d
theorem last_app (t : List Nat) {w : List Nat} (h : w ≠ []) : (t ++ w).getLastD 0 = w.getLastD 0 := by
  rw [List.getLastD_eq_getLast?, List.getLastD_eq_getLast?, List.getLast?_append]
  cases w with
  | nil => exact absurd rfl h
  | cons x r => rw [List.getLast?_cons]; rfl
theorem wt_sound {F : Fab} (ok : F.Ok) {L : Nat} {out : List Nat} {d c : Nat} (hc : c < F.m) (ho : c ∉ out) {x : List Nat} (hx : x ∈ F.wt L out d c) : Way F L d x ∧ c ∈ x ∧ Off out x := by
  unfold Fab.wt at hx
  have hgood : ∀ (h : c < F.m), Good F [c] := fun h => ⟨by simp, by simp, fun x hx => by rw [List.mem_singleton.mp hx]; exact h⟩
  by_cases q : c ∈ F.op (F.C c).u d
  · rw [if_pos q] at hx
    obtain ⟨w, hw, hx⟩ := List.mem_flatMap.mp hx
    by_cases q2 : (F.C (w.getLastD 0)).v ≠ d
    · rw [if_pos q2] at hx
      have gw := lB_good ok _ _ (hgood hc) rfl w hw
      obtain ⟨⟨t, e⟩, o1, c1, l1⟩ := lB_sound ok _ _ (hgood hc) rfl (fun z hz => by rw [List.mem_singleton.mp hz]; exact ho) trivial w hw
      have hd : w.headD 0 = c := by rw [e]; rfl
      obtain ⟨⟨t2, e2⟩, o2, c2, l2, h2⟩ := lA_sound _ w gw rfl o1 c1 (by rw [hd]; exact q) x hx
      refine ⟨⟨lA_good _ w gw rfl x hx, c2, h2, l2, ?_⟩, ?_, o2⟩
      · rw [e2, last_app _ gw.ne]; exact q2
      · rw [e2, e]; simp
    · rw [if_neg q2] at hx
      cases hx
  · rw [if_neg q] at hx
    cases hx
theorem cand_sound {F : Fab} (ok : F.Ok) {L : Nat} {chosen : List Pr} {barred : List Nat} {c : Nat} (hc : c < F.m) {p : Pr} (h : p ∈ F.cand L chosen barred c) : p.1 < F.n ∧ Way F L p.1 p.2 ∧ c ∈ p.2 ∧ Off (barred ++ heldL chosen) p.2 ∧ Off barred (F.wo p.1 p.2) := by
  unfold Fab.cand at h
  by_cases q : c ∈ barred ++ heldL chosen
  · rw [if_pos q] at h; cases h
  · rw [if_neg q] at h
    have h := (List.mergeSort_perm (F.cand0 L chosen barred c) _).mem_iff.mp h
    unfold Fab.cand0 at h
    obtain ⟨d, hd, h⟩ := List.mem_flatMap.mp h
    obtain ⟨w, hw, rfl⟩ := List.mem_map.mp h
    obtain ⟨hw, hb⟩ := List.mem_filter.mp hw
    obtain ⟨a1, a2, a3⟩ := wt_sound ok hc q hw
    refine ⟨List.mem_range.mp hd, a1, a2, a3, fun x hx hx2 => ?_⟩
    have : (F.wo d w).any (fun x => decide (x ∈ barred)) = true := List.any_eq_true.mpr ⟨x, hx, decide_eq_true hx2⟩
    rw [this] at hb
    cases hb
end K68

set_option Elab.async false
set_option linter.all false
set_option maxRecDepth 100000
set_option maxHeartbeats 1000000
/-! K68, text B12: search. -/
namespace K68
open PySem PySem.Spec L2
open PyProof.Rows hiding St
/-- a stand of the search -/
structure Stt (F : Fab) (chosen : List Pr) (barred : List Nat) : Prop where
  pr : PrsOk F chosen
  nd : (heldL chosen ++ barred).Nodup
  lt : ∀ c ∈ barred, c < F.m
theorem Stt.len {F : Fab} {chosen : List Pr} {barred : List Nat} (h : Stt F chosen barred) : (heldL chosen ++ barred).length ≤ F.m := by
  have := nodup_le _ (List.range F.m) h.nd fun k hk => by
    rw [List.mem_range]
    rcases List.mem_append.mp hk with z | z
    · obtain ⟨p, hp, hz⟩ := List.mem_flatMap.mp z
      exact (h.pr p hp).2.lt k hz
    · exact h.lt k z
  rw [List.length_range] at this
  exact this
theorem held_ge {F : Fab} : ∀ {chosen : List Pr}, PrsOk F chosen → chosen.length ≤ (heldL chosen).length
  | [], _ => Nat.zero_le _
  | p :: r, h => by
    have h1 := held_ge (chosen := r) fun q hq => h q (List.mem_cons_of_mem _ hq)
    have h2 := (h p List.mem_cons_self).2.pos
    show r.length + 1 ≤ (p.2 ++ heldL r).length
    rw [List.length_append]
    omega
theorem Stt.order {F : Fab} {L : Nat} {chosen : List Pr} {barred : List Nat} (h : Stt F chosen barred) : Stt F chosen (barred ++ F.idle L chosen barred) := by
  have o := Ord.idle (F := F) (L := L) (chosen := chosen) (barred := barred)
  refine ⟨h.pr, ?_, fun c hc => ?_⟩
  · rw [← List.append_assoc, List.nodup_append]
    refine ⟨h.nd, o.nd, fun a ha b hb e => ?_⟩
    subst e
    obtain ⟨k, hk⟩ := List.getElem?_of_mem hb
    obtain ⟨q1, q2, _⟩ := o.ok k a hk
    rcases List.mem_append.mp ha with z | z
    · exact q1 z
    · exact q2 (List.mem_append_left _ z)
  · rcases List.mem_append.mp hc with z | z
    · exact h.lt c z
    · exact o.lt c z
theorem heldL_app (a b : List Pr) : heldL (a ++ b) = heldL a ++ heldL b := by unfold heldL; rw [List.flatMap_append]
theorem heldL_one (p : Pr) : heldL [p] = p.2 := by unfold heldL; simp
theorem Stt.pair {F : Fab} (ok : F.Ok) {L : Nat} {chosen : List Pr} {barred : List Nat} {c : Nat} {p : Pr} (h : Stt F chosen barred) (hc : c < F.m) (hp : p ∈ F.cand L chosen barred c) : Stt F (chosen ++ [p]) barred ∧ (heldL chosen ++ barred).length < (heldL (chosen ++ [p]) ++ barred).length := by
  obtain ⟨a1, a2, a3, a4, a5⟩ := cand_sound ok hc hp
  refine ⟨⟨fun q hq => ?_, ?_, h.lt⟩, ?_⟩
  · rcases List.mem_append.mp hq with z | z
    · exact h.pr q z
    · rw [List.mem_singleton.mp z]; exact ⟨a1, a2.good⟩
  · rw [heldL_app, heldL_one, List.append_assoc, List.nodup_append]
    have hn := List.nodup_append.mp h.nd
    refine ⟨hn.1, ?_, fun a ha b hb e => ?_⟩
    · rw [List.nodup_append]
      exact ⟨a2.good.nd, hn.2.1, fun a ha b hb e => a4 a ha (List.mem_append_left _ (e ▸ hb))⟩
    · rcases List.mem_append.mp hb with z | z
      · exact a4 b z (List.mem_append_right _ (e ▸ ha))
      · exact hn.2.2 a ha b z e
  · have := a2.good.pos
    rw [heldL_app, heldL_one, List.length_append, List.length_append, List.length_append]
    omega
theorem Stt.bar {F : Fab} {chosen : List Pr} {barred : List Nat} {c : Nat} (h : Stt F chosen barred) (hc : c < F.m) (h1 : c ∉ heldL chosen) (h2 : c ∉ barred) : Stt F chosen (barred ++ [c]) := by
  refine ⟨h.pr, ?_, fun x hx => ?_⟩
  · rw [← List.append_assoc, List.nodup_append]
    refine ⟨h.nd, by simp, fun a ha b hb e => ?_⟩
    rw [List.mem_singleton] at hb
    subst hb
    subst e
    rcases List.mem_append.mp ha with z | z
    · exact h1 z
    · exact h2 z
  · rcases List.mem_append.mp hx with z | z
    · exact h.lt x z
    · rw [List.mem_singleton.mp z]; exact hc
theorem opC_mem {F : Fab} (ok : F.Ok) {chosen : List Pr} {barred : List Nat} {c : Nat} (h : c ∈ F.opC chosen barred) : c < F.m ∧ c ∉ heldL chosen ∧ c ∉ barred := by
  unfold Fab.opC at h
  obtain ⟨h1, h2⟩ := List.mem_filter.mp h
  simp only [Bool.and_eq_true, Bool.not_eq_true', decide_eq_false_iff_not] at h2
  refine ⟨?_, h2⟩
  by_cases q : 0 < chosen.length
  · rw [if_pos q] at h1
    exact opts_lt ok c (sN_mem.mp h1)
  · rw [if_neg q] at h1
    exact List.mem_range.mp h1
theorem cand_len {F : Fab} (ok : F.Ok) {L : Nat} {chosen : List Pr} {barred : List Nat} {c : Nat} (hc : c < F.m) : (F.cand L chosen barred c).length ≤ 425104 := by
  unfold Fab.cand
  split
  · exact Nat.zero_le _
  · have e : (sortP (F.cand0 L chosen barred c)).length = (F.cand0 L chosen barred c).length := (List.mergeSort_perm _ _).length_eq
    rw [e]
    have h1 := flat_le (f := F.cd1 L chosen barred c) (n := 106276) (l := List.range F.n) fun d' hd' => by
      unfold Fab.cd1
      rw [List.length_map]
      exact Nat.le_trans (List.length_filter_le _ _) (wt_len ok hc)
    rw [List.length_range] at h1
    have h4 := ok.n4
    have h5 : F.n * 106276 ≤ 4 * 106276 := Nat.mul_le_mul_right _ h4
    have e2 : F.cand0 L chosen barred c = (List.range F.n).flatMap (F.cd1 L chosen barred c) := rfl
    rw [e2]
    omega
/-! ### the search, part by part -/
def Fab.loop (F : Fab) (L k : Nat) (chosen : List Pr) (b2 : List Nat) (c : Nat) : Except (List Pr) (List Tr) := loopS (fun p => F.srch L k (chosen ++ [p]) b2) (F.cand L chosen b2 c) []
section
variable {F : Fab} {L k : Nat} {chosen : List Pr} {barred b2 : List Nat}
theorem srch_cl (hb : b2 = barred ++ F.idle L chosen barred) (h : F.isC chosen b2 = true) : F.srch L (k + 1) chosen barred = .tree (.cl (F.idle L chosen barred)) := by
  subst hb
  show (if _ then _ else _) = _
  rw [if_pos h]
theorem srch_kn (hb : b2 = barred ++ F.idle L chosen barred) (h : F.isC chosen b2 = false) (hl : F.opC chosen b2 = []) : F.srch L (k + 1) chosen barred = .knot (sortP chosen) := by
  subst hb
  show (if _ then _ else if _ then _ else _) = _
  rw [if_neg (by rw [h]; exact Bool.false_ne_true), if_pos hl]
theorem srch_er {c : Nat} {q : List Pr} (hb : b2 = barred ++ F.idle L chosen barred) (h : F.isC chosen b2 = false) (hl : F.opC chosen b2 ≠ []) (hc : c = F.pick L chosen b2 (F.opC chosen b2)) (hq : F.loop L k chosen b2 c = .error q) : F.srch L (k + 1) chosen barred = .knot q := by
  subst hb
  subst hc
  show (if _ then _ else if _ then _ else match F.loop L k chosen _ _ with | .error q => _ | .ok ts => _) = _
  rw [if_neg (by rw [h]; exact Bool.false_ne_true), if_neg hl, hq]
theorem srch_ok {c : Nat} {ts : List Tr} (hb : b2 = barred ++ F.idle L chosen barred) (h : F.isC chosen b2 = false) (hl : F.opC chosen b2 ≠ []) (hc : c = F.pick L chosen b2 (F.opC chosen b2)) (hq : F.loop L k chosen b2 c = .ok ts) :
    F.srch L (k + 1) chosen barred = if chosen.length = 0 then (match F.srch L k chosen (b2 ++ [c]) with
        | .knot q => .knot q
        | .tree t => .tree (.sp (F.idle L chosen barred) c (ts ++ [t]))) else .tree (.sp (F.idle L chosen barred) c ts) := by
  subst hb
  subst hc
  show (if _ then _ else if _ then _ else match F.loop L k chosen _ _ with | .error q => _ | .ok ts => _) = _
  rw [if_neg (by rw [h]; exact Bool.false_ne_true), if_neg hl, hq]
  all_goals rfl
end
theorem minD_rows : ∀ (l : List (Nat × Nat)) (b : Nat × Nat), PySem.W.minD (dRow2 b) (l.map dRow2) = dRow2 (minR b l)
  | [], b => rfl
  | x :: r, b => by
    have e : PySem.W.minD (dRow2 b) ((x :: r).map dRow2) = PySem.W.minD (if PySem.W.dataLt (dRow2 x) (dRow2 b) then dRow2 x else dRow2 b) (r.map dRow2) := rfl
    have e2 : PySem.W.dataLt (dRow2 x) (dRow2 b) = decide (x.1 < b.1 ∨ (x.1 = b.1 ∧ x.2 < b.2)) := by
      show PySem.W.dataLt (.tuple [.int _, .int _]) (.tuple [.int _, .int _]) = _
      rw [PySem.W.dataLt_ii]
      exact decide_eq_decide.mpr ⟨fun h => by omega, fun h => by omega⟩
    rw [e, e2]
    unfold minR
    by_cases q : x.1 < b.1 ∨ (x.1 = b.1 ∧ x.2 < b.2)
    · rw [if_pos q, decide_eq_true q, if_pos rfl]
      exact minD_rows r x
    · rw [if_neg q, decide_eq_false q, if_neg Bool.false_ne_true]
      exact minD_rows r b
theorem alike_rows (l : List (Nat × Nat)) : PySem.W.AlikeAll (l.map dRow2) := ⟨fun x hx y hy => by
  obtain ⟨a, _, rfl⟩ := List.mem_map.mp hx
  obtain ⟨b, _, rfl⟩ := List.mem_map.mp hy
  show PySem.W.alike (.tuple [.int _, .int _]) (.tuple [.int _, .int _]) = true
  simp [PySem.W.alike, PySem.W.alikeAll], fun x hx e => by
  obtain ⟨a, _, rfl⟩ := List.mem_map.mp hx
  cases e⟩
theorem depth_rows (l : List (Nat × Nat)) : PyData.depthAll (l.map dRow2) ≤ 20 := by
  induction l with
  | nil => exact Nat.zero_le _
  | cons x r ih =>
    have e : PyData.depthAll ((x :: r).map dRow2) = max (dRow2 x).depth (PyData.depthAll (r.map dRow2)) := by rw [List.map_cons]; simp only [PyData.depthAll]
    have e1 : (dRow2 x).depth ≤ 20 := by
      show PyData.depth (.tuple [.int _, .int _]) ≤ 20
      simp only [PyData.depth, PyData.depthAll]
      omega
    rw [e]
    omega
theorem lay_rows (l : List (Nat × Nat)) : ∀ d ∈ l.map dRow2, d.canLay0 = true := fun d hd => by
  obtain ⟨a, _, rfl⟩ := List.mem_map.mp hd
  rfl
section
variable {M : Md} {X : Cx} {a b c e : Expr} {σ : L2.St} {H : Hp} {p pos : Pos}
theorem j_lenPl {ps : List Pr} (B : Blt X.mg) (h : JL M X a σ H (ps.map dPr)) (hi : M.i H := by first | exact trivial | assumption) (hg : Gl X "len" := by rfl) (hs : starEach [a] X.env = (false, eval a X.env) :: starEach [] X.env := by rfl) : JK M X (.Call (.Name "len" p) [a] [] pos) σ H (kI (ps.length : Int)) := by
  have := j_lenL (p := p) (pos := pos) B (h.k hi) hg hs
  rw [List.length_map] at this
  exact this
theorem j_tup4 {k : Nat} {d1 d2 d3 d4 : PyData} (h1 : JK M X a σ H (kD d1)) (h2 : JK M X b σ H (kD d2)) (h3 : JK M X c σ H (kD d3)) (h4 : JK M X e σ H (kD d4)) (hs : starEach [a, b, c, e] X.env = (false, eval a X.env) :: starEach [b, c, e] X.env := by rfl) (hs1 : starEach [b, c, e] X.env = (false, eval b X.env) :: starEach [c, e] X.env := by rfl) (hs2 : starEach [c, e] X.env = (false, eval c X.env) :: starEach [e] X.env := by rfl) (hs3 : starEach [e] X.env = (false, eval e X.env) :: starEach [] X.env := by rfl) : JK M X (.Tuple [a, b, c, e] k pos) σ H (kD (.tuple [d1, d2, d3, d4])) :=
  j_tupN (n := 4) (ja_cons h1 (ja_cons h2 (ja_cons h3 (ja_cons h4 ja_nil hs3) hs2) hs1) hs) ka4 (by show 4 ≤ 100; decide)
end
def rsW : Rs → Str
  | .knot _ => "knot"
  | .tree _ => "tree"
def rsP : Rs → PyData
  | .knot q => dPrs q
  | .tree t => dTr t
theorem dRs_eq (r : Rs) : dRs r = .tuple [.str (rsW r), rsP r] := by cases r <;> rfl
section
variable {P : Program} {w : World} {K : PySem.W.Frag} {mg : Str → Option Value} {base : Heap} {f : Addr} {fd : FuncData} {tbs : List Addr} {cT PT : Addr}
structure SrOk (k : Nat) (i : IoI) : Prop where
  F : i.F.Ok
  st : Stt i.F i.chosen i.barred
  fuel : i.F.m + 1 ≤ k + (heldL i.chosen ++ i.barred).length
def spSr (tbs : List Addr) (k : Nat) : Sp := spK tbs (SrOk k) IoI.ks (fun i => kD (dRs (i.F.srch i.L k i.chosen i.barred)))
theorem fnSr0 (F : Fun K "search" "search" (topS 18) f fd) (hm : mg "search" = some (.ref f)) : FnK P w K mg base "search" A18 7 (spSr tbs 0) := by
  refine fn_k F hm sc18 (fun _ => rfl) (fun _ _ _ _ _ _ us hl => match us, hl with | [_, _, _, _], _ => rfl) fun cdv A outer s H vs Q E i hr hp ht hk hq => ?_
  have h1 := hp.fuel
  have h2 := hp.st.len
  omega
theorem fnSr1 {k : Nat} (B : Blt mg) (F : Fun K "search" "search" (topS 18) f fd) (hm : mg "search" = some (.ref f)) (fS : FnK P w K mg base "search" A18 (7 + k) (spSr tbs k)) (fI : FnK P w K mg base "idle_order" A15 6 (spIo tbs)) (fC : FnK P w K mg base "is_closed" A16 3 (spIc tbs)) (fO : FnK P w K mg base "open_channels" A17 3 spOc)
    (fD : FnK P w K mg base "candidates" A10 4 (spCd tbs)) : FnK P w K mg base "search" A18 (7 + k + 1) (spSr tbs (k + 1)) := by
  refine fn_k F hm sc18 (fun _ => rfl) (fun _ _ _ _ _ _ us hl => match us, hl with | [_, _, _, _], _ => rfl) fun cdv A outer s H vs Q E i hr hp ht hk hq => ?_
  obtain ⟨F, L, chosen, barred⟩ := i
  have ok : F.Ok := hp.F
  have st : Stt F chosen barred := hp.st
  have fuel : F.m + 1 ≤ (k + 1) + (heldL chosen ++ barred).length := hp.fuel
  have hq : RetK M0 (kD (dRs (F.srch L (k + 1) chosen barred))) H Q := hq
  obtain ⟨a, b, c, e, rfl, ha, hb, hc, he⟩ := k4 hk
  have ha : kD F.d H a := ha
  have hb : kI (L : Int) H b := hb
  have hc : kD (dPrs chosen) H c := hc
  have he : kD (dNs barred) H e := he
  have hr7 : Room 6 (DX P w K mg base N18 "search" (topS 18) f cdv A outer s H E).A := hr.mono (by omega)
  have hun := hr.un
  have h6 := ok.m6
  have hlen := st.len
  have hlc := held_ge st.pr
  rw [List.length_append] at hlen
  have l1 : (barred ++ heldL chosen).length ≤ 900 := by rw [List.length_append]; omega
  refine s_asg (M := M0) 4 sc18.nd (j_tupL B (JL.k (j_defL (⟨F, L, chosen, barred⟩ : IoI) fI hr7 ⟨ok, l1⟩ ht (ja_cons (j_var 0 rfl ha) (ja_cons (j_var 1 rfl hb) (ja_cons (j_var 2 rfl hc) (ja_cons (j_var 3 rfl he) ja_nil))))))) fun v4 H1 x1 k4 => ?_
  have k4 : kD (dNs (F.idle L chosen barred)) H1 v4 := k4
  have hio := (Ord.idle (F := F) (L := L) (chosen := chosen) (barred := barred)).len
  obtain ⟨b2, hb2⟩ : ∃ b2, b2 = barred ++ F.idle L chosen barred := ⟨_, rfl⟩
  have st2 : Stt F chosen b2 := by rw [hb2]; exact st.order
  have hlen2 := st2.len
  have hge : (heldL chosen ++ barred).length ≤ (heldL chosen ++ b2).length := by rw [hb2, List.length_append, List.length_append, List.length_append]; omega
  have ed : dNs b2 = .tuple (barred.map dI ++ (F.idle L chosen barred).map dI) := by rw [hb2]; unfold dNs; rw [List.map_append]
  refine s_asg (M := M0) 3 sc18.nd (K := kD (dNs b2)) (by rw [ed]; exact j_op (ok_cat (by rw [List.length_map, List.length_map]; omega)) (j_var 3 rfl (Mn.mono x1 he)) (j_var 4 rfl k4)) fun v3 H2 x2 k3 => ?_
  have x02 := x1.trans x2
  have lb2 : b2.length ≤ 12 := by rw [hb2, List.length_append]; omega
  have icok : IcI.ok ⟨F, chosen, b2⟩ := ⟨ok, st.pr, by show chosen.length ≤ 1000; omega, by show b2.length ≤ 1000; omega, by show (heldL chosen).length ≤ 1000; omega⟩
  refine s_when (M := M0) (t := F.isC chosen b2) (jt_val (j_def (⟨F, chosen, b2⟩ : IcI) fC (hr7.mono (by decide)) icok (tabs_up x02 ht) (ja_cons (j_var 0 rfl (Mn.mono x02 ha)) (ja_cons (j_var 2 rfl (Mn.mono x02 hc)) (ja_cons (j_var 3 rfl k3) ja_nil))))) (fun q H3 x3 => ?_) fun q H3 x3 => ?_
  · rw [srch_cl hb2 q] at hq
    exact s_ret (M := M0) (j_tup2 j_str (j_tup2 j_str (j_var 4 rfl (Mn.mono (M := M0) (K := kD (dNs (F.idle L chosen barred))) (x2.trans x3) k4)))) fun v H4 x4 k => hq v H4 (x02.trans (x3.trans x4)) k
  have x03 := x02.trans x3
  refine s_asgL (M := M0) 5 sc18.nd (j_defL (⟨F, chosen, b2⟩ : IcI) fO (hr7.mono (by decide)) icok no_tabs (ja_cons (j_var 0 rfl (Mn.mono x03 ha)) (ja_cons (j_var 2 rfl (Mn.mono x03 hc)) (ja_cons (j_var 3 rfl (Mn.mono x3 k3)) ja_nil)))) fun pl xl H4 n4 x4 e4 r4 => ?_
  have e4 : OL H4 pl xl ((F.opC chosen b2).map dI) := ⟨e4, r4⟩
  have x04 := x03.trans x4
  have shpI : ∀ d ∈ (F.opC chosen b2).map dI, d.canLay0 = true ∧ d.depth ≤ 20 := fun d hd => by
    obtain ⟨n, _, rfl⟩ := List.mem_map.mp hd
    exact ⟨rfl, by unfold dI; simp only [PyData.depth]; omega⟩
  refine s_when (M := M0) (t := decide ((F.opC chosen b2).map dI = [])) (jt_cmp (ok_eqL0 shpI (by omega)) (j_var 5 rfl e4.kl) (JL.k j_lst0)) (fun q2 H5 x5 => ?_) fun q2 H5 x5 => ?_
  · have hl : F.opC chosen b2 = [] := List.map_eq_nil_iff.mp (of_decide_eq_true q2)
    rw [srch_kn hb2 q hl] at hq
    exact s_ret (M := M0) (j_tup2 j_str (j_tupL (ds := (sortP chosen).map dPr) B (JL.k (j_callBL (ck_sortT (bs := chosen) (alike_prs _) (sortable_prs _) (fun p _ => depth_pr p) (by omega)) rfl B.sorted bt_sorted (ja_cons (j_var 2 rfl (Mn.mono (x04.trans x5) hc)) ja_nil) (by decide) (by decide) rfl rfl)))) fun v H6 x6 k => hq v H6 ((x04.trans x5).trans x6) k
  have hl : F.opC chosen b2 ≠ [] := fun z => of_decide_eq_false q2 (List.map_eq_nil_iff.mpr z)
  have x05 := x04.trans x5
  have e5 := e4.up x5
  have k35 : kD (dNs b2) H5 v3 := Mn.mono (M := M0) ((x3.trans x4).trans x5) k3
  have cdok : ∀ c, c < F.m → CdI.ok ⟨F, L, chosen, b2, c⟩ := fun c hc => ⟨ok, hc, by show (b2 ++ heldL chosen).length ≤ 1000; rw [List.length_append]; omega⟩
  have ⟨c0, rl, hcl⟩ : ∃ c0 rl, F.opC chosen b2 = c0 :: rl := by
    cases hz : F.opC chosen b2 with
    | nil => exact absurd hz hl
    | cons x r => exact ⟨x, r, rfl⟩
  refine s_asgLc (M := M0) 7 (bs := F.opC chosen b2) (enc := dI) (gg := fun c => dRow2 (F.rowOf L chosen b2 c)) (f := fun _ => true) rfl sc18.nd bk18_0 (fun s H C cl fp => pg_name sc18.nd (i := 6) rfl (Or.inl rfl)) (JIL.x (jil_of (j_var 5 rfl e5.kl))) ?_ (tg_name fun v => rfl) trivial (fun H1 b' σ2 x hb gd => jbts_nil) (fun H9 c' σ2 x9 hm gd _ => ?_) fun pr xr H6 n6 x6 e6 r6 => ?_
  · have := List.length_filter_le (fun c => !decide (c ∈ heldL chosen) && !decide (c ∈ b2)) (if 0 < chosen.length then F.aO chosen else List.range F.m)
    have h7 : (if 0 < chosen.length then F.aO chosen else List.range F.m).length ≤ 6 := by
      by_cases q : 0 < chosen.length
      · rw [if_pos q]; exact aO_len ok chosen
      · rw [if_neg q, List.length_range]; exact h6
    unfold Fab.opC
    omega
  · obtain ⟨v9, hv9, rfl⟩ := gd
    have hc' := opC_mem ok hm
    intro s0 H0 C cl fp
    exact j_tup2 (d1 := dI (F.cand L chosen b2 c').length) (j_lenPl B (j_defL (⟨F, L, chosen, b2, c'⟩ : CdI) fD (by exact hr7.mono (by decide)) (cdok c' hc'.1) (tabs_up (x05.trans x9) ht) (ja_cons (j_var 0 rfl (Mn.mono (x05.trans x9) ha)) (ja_cons (j_var 1 rfl (Mn.mono (x05.trans x9) hb)) (ja_cons (j_var 2 rfl (Mn.mono (x05.trans x9) hc)) (ja_cons (j_var 3 rfl (Mn.mono x9 k35)) (ja_cons (j_var 6 rfl (K := kI (c' : Int)) hv9) ja_nil))))))) (j_var 6 rfl (K := kI (c' : Int)) hv9)
  have x06 := x05.trans x6
  rw [filter_T] at r6
  have er : (F.opC chosen b2).map (fun c => dRow2 (F.rowOf L chosen b2 c)) = (F.rowOf L chosen b2 c0 :: rl.map (F.rowOf L chosen b2)).map dRow2 := by rw [hcl, List.map_cons, List.map_cons, List.map_map]; rfl
  rw [er] at r6
  have ep : F.pick L chosen b2 (F.opC chosen b2) = (minR (F.rowOf L chosen b2 c0) (rl.map (F.rowOf L chosen b2))).2 := by rw [hcl]; rfl
  obtain ⟨ch, hch⟩ : ∃ ch, ch = F.pick L chosen b2 (F.opC chosen b2) := ⟨_, rfl⟩
  have hcm := opC_mem ok (hch ▸ pick_mem hl : ch ∈ F.opC chosen b2)
  refine s_asg (M := M0) 6 sc18.nd (K := kI (ch : Int)) (by
    rw [hch, ep]
    exact j_item (i := 1) rfl (j_callB (ck_minL (enc := dRow2) (b := F.rowOf L chosen b2 c0) (bs := rl.map (F.rowOf L chosen b2)) rfl (alike_rows _) (depth_rows _) (by omega) (minD_rows _ _) (lay_rows _)) rfl B.min bt_min (ja_cons (j_var 7 rfl ⟨pr, xr, rfl, e6, r6, id⟩) ja_nil) (by decide) (by decide) rfl rfl) j_int) fun v6 H7 x7 k6 => ?_
  have x07 := x06.trans x7
  refine s_asgL (M := M0) 8 sc18.nd j_lst0 fun pt xt H8 n8 x8 e8 r8 => ?_
  have npt : H pt = none := x07.free _ n8
  have x08 := x07.trans x8
  have k38 : kD (dNs b2) H8 v3 := Mn.mono (M := M0) ((x6.trans x7).trans x8) k35
  have k48 : kD (dNs (F.idle L chosen barred)) H8 v4 := Mn.mono (M := M0) ((((((x2.trans x3).trans x4).trans x5).trans x6).trans x7).trans x8) k4
  have k68 : kI (ch : Int) H8 v6 := Mn.mono (M := M0) x8 k6
  refine s_forN (M := M0) (pg_name (i := 9) sc18.nd rfl (Or.inl rfl)) (j_defL (⟨F, L, chosen, b2, ch⟩ : CdI) fD (hr7.mono (by decide)) (cdok ch hcm.1) (tabs_up x08 ht) (ja_cons (j_var 0 rfl (Mn.mono x08 ha)) (ja_cons (j_var 1 rfl (Mn.mono x08 hb)) (ja_cons (j_var 2 rfl (Mn.mono x08 hc)) (ja_cons (j_var 3 rfl k38) (ja_cons (j_var 6 rfl k68) ja_nil)))))) rfl trivial fun p ys H9 n9 x9 e9 r9 => ?_
  have x09 := x08.trans x9
  have hnp : pt ≠ p := fun z => by rw [z] at e8; rw [n9] at e8; cases e8
  refine ⟨fun j σ' H' => ∃ xs ts o9 o10 o11, σ' = [some a, some b, some c, some v3, some v4, some (.ref pl), some v6, some (.ref pr), some (.ref pt), o9, o10, o11] ∧ OL H' pt xs (dTrs ts) ∧ F.loop L k chosen b2 ch = loopS (fun p => F.srch L k (chosen ++ [p]) b2) ((F.cand L chosen b2 ch).drop j) ts ∧ ts.length ≤ j ∧ Xt M0 H H' ∧ Tm H9 H' ∧ H' p = some (.lst ys),
    ⟨xt, [], none, none, none, rfl, ⟨x9.keep _ _ e8 (nt_lst _) id, RpL.tm x9.tm _ r8⟩, rfl, Nat.le_refl _, x09, Tm.refl _, e9⟩, fun j σ' H' ⟨_, _, _, _, _, _, _, _, _, _, t, e⟩ => ⟨t, e⟩, ?_, ?_⟩
  · rintro j dd v9 σ' H10 hj rv ⟨xs, ts, o9, o10, o11, rfl, ot, hlp, htl, x10, t10, e10⟩
    have hj0 : ((F.cand L chosen b2 ch).map dPr)[j]? = some dd := hj
    rw [List.getElem?_map] at hj0
    obtain ⟨pj, hj1, rfl⟩ := Option.map_eq_some_iff.mp hj0
    have hmem := List.mem_of_getElem? hj1
    have hjl := (List.getElem?_eq_some_iff.mp hj1).1
    obtain ⟨stp, hgt⟩ := st2.pair ok hcm.1 hmem
    have hdrop : (F.cand L chosen b2 ch).drop j = pj :: (F.cand L chosen b2 ch).drop (j + 1) := by
      rw [List.drop_eq_getElem_cons hjl]
      congr 1
      exact (List.getElem?_eq_some_iff.mp hj1).2
    rw [hdrop] at hlp
    have k3' : kD (dNs b2) H10 v3 := Rp.tm (x9.tm.trans t10) _ k38
    have epr : dPrs (chosen ++ [pj]) = .tuple (chosen.map dPr ++ [dPr pj]) := by unfold dPrs; rw [List.map_append]; rfl
    show WSs _ _ _ _ _
    obtain ⟨r, hres⟩ : ∃ r, F.srch L k (chosen ++ [pj]) b2 = r := ⟨_, rfl⟩
    refine s_asgG (M := M0) (K := kD (dRs r)) (pg_tup rfl (pgs_cons (pg_name (i := 10) sc18.nd rfl (Or.inl rfl)) (pgs_cons (pg_name (i := 11) sc18.nd rfl (Or.inl rfl)) pgs_nil))) (by
      rw [← hres]
      exact j_def (⟨F, L, chosen ++ [pj], b2⟩ : IoI) fS hr ⟨ok, stp, by show F.m + 1 ≤ k + (heldL (chosen ++ [pj]) ++ b2).length; omega⟩ (tabs_up x10 ht) (ja_cons (j_var 0 rfl (Mn.mono x10 ha)) (ja_cons (j_var 1 rfl (Mn.mono x10 hb)) (ja_cons (K := kD (dPrs (chosen ++ [pj]))) (by
        rw [epr]
        exact j_op (ok_cat (by rw [List.length_map]; show chosen.length + 1 ≤ 1000000; omega)) (j_var 2 rfl (Mn.mono x10 hc)) (j_tup1 (j_var 9 rfl (K := kD (dPr pj)) rv))) (ja_cons (j_var 3 rfl k3') ja_nil))))) fun v10 H11 x11 k10 => ?_
    rw [dRs_eq] at k10
    refine g_pair k10 fun w1 w2 r1 r2 => ?_
    refine s_when (M := M0) (t := decide (rsW r = "knot")) (jt_cmp ok_eqS (j_var 10 rfl (K := kD (.str (rsW r))) r1) j_str) (fun q3 H12 x12 => ?_) fun q3 H12 x12 => ?_
    · cases r with
      | tree t => exact absurd (of_decide_eq_true q3) (show ¬ (("tree" : Str) = "knot") by decide)
      | knot qk =>
        have hle : F.loop L k chosen b2 ch = .error qk := by rw [hlp]; unfold loopS; rw [hres]
        rw [srch_er hb2 q hl hch hle] at hq
        exact s_ret (M := M0) (j_tup2 (j_var 10 rfl (Mn.mono (M := M0) (K := kD (.str "knot")) x12 r1)) (j_var 11 rfl (Mn.mono (M := M0) (K := kD (dPrs qk)) x12 r2))) fun v H13 x13 kk => hq v H13 (((x10.trans x11).trans x12).trans x13) kk
    · cases r with
      | knot qk => exact absurd rfl (of_decide_eq_false q3)
      | tree t =>
        have hlp' : F.loop L k chosen b2 ch = loopS (fun p => F.srch L k (chosen ++ [p]) b2) ((F.cand L chosen b2 ch).drop (j + 1)) (ts ++ [t]) := by rw [hlp]; unfold loopS; rw [hres]; cases (F.cand L chosen b2 ch).drop (j + 1) <;> rfl
        have ot' := (ot.up x11).up x12
        have hcl := cand_len (L := L) (chosen := chosen) (barred := b2) ok hcm.1
        refine s_append (M := M0) 8 (K := kD (dTr t)) rfl ot'.1 (j_var 11 rfl (Mn.mono (M := M0) (K := kD (dTr t)) x12 r2)) (by rw [ot'.len, dTrs_map, List.length_map]; omega) id fun v13 H13 x13 kv e13 => s_nil ⟨xs ++ [v13], ts ++ [t], some v9, some w1, some w2, rfl, ?_, hlp', by rw [List.length_append]; show ts.length + 1 ≤ j + 1; omega, (((x10.trans x11).trans x12).trans x13).mut npt, (t10.trans ((x11.trans x12).trans x13).tm).trans (Tm.lst e13), by rw [upd_ne hnp.symm]; exact ((x11.trans x12).trans x13).keep _ _ e10 (nt_lst _) id⟩
        have := (ot'.up x13).app kv
        rw [dTrs_map, List.map_append, ← dTrs_map]
        exact this
  · rintro σ' H10 ⟨xs, ts, o9, o10, o11, rfl, ot, hlp, htl, x10, t10, e10⟩
    rw [List.length_map, List.drop_length] at hlp
    have hlp : F.loop L k chosen b2 ch = .ok ts := hlp
    have hsr := srch_ok hb2 q hl hch hlp
    have k3' : kD (dNs b2) H10 v3 := Rp.tm (x9.tm.trans t10) _ k38
    have k4' : kD (dNs (F.idle L chosen barred)) H10 v4 := Rp.tm (x9.tm.trans t10) _ k48
    have k6' : kI (ch : Int) H10 v6 := Rp.tm (x9.tm.trans t10) _ k68
    have hlt : ts.length ≤ 425104 := by
      rw [List.length_map] at htl
      exact Nat.le_trans htl (cand_len ok hcm.1)
    refine s_if (M := M0) (t := decide (chosen.length = 0)) (JT.is (jt_cmp ok_eqI (j_lenPr B (j_var 2 rfl (Mn.mono x10 hc))) j_int) (decN (b := 0))) (fun q3 H11 x11 => ?_) fun q3 H11 x11 => ?_
    · have hc0 : chosen.length = 0 := of_decide_eq_true q3
      rw [if_pos hc0] at hsr
      have stb := st2.bar hcm.1 hcm.2.1 hcm.2.2
      have x011 := x10.trans x11
      have ebr : dNs (b2 ++ [ch]) = .tuple (b2.map dI ++ [dI ch]) := by unfold dNs; rw [List.map_append]; rfl
      obtain ⟨r, hres⟩ : ∃ r, F.srch L k chosen (b2 ++ [ch]) = r := ⟨_, rfl⟩
      rw [hres] at hsr
      refine s_asgG (M := M0) (K := kD (dRs r)) (pg_tup rfl (pgs_cons (pg_name (i := 10) sc18.nd rfl (Or.inl rfl)) (pgs_cons (pg_name (i := 11) sc18.nd rfl (Or.inl rfl)) pgs_nil))) (by
        rw [← hres]
        exact j_def (⟨F, L, chosen, b2 ++ [ch]⟩ : IoI) fS hr ⟨ok, stb, by show F.m + 1 ≤ k + (heldL chosen ++ (b2 ++ [ch])).length; rw [← List.append_assoc, List.length_append]; show F.m + 1 ≤ k + ((heldL chosen ++ b2).length + 1); omega⟩ (tabs_up x011 ht) (ja_cons (j_var 0 rfl (Mn.mono x011 ha)) (ja_cons (j_var 1 rfl (Mn.mono x011 hb)) (ja_cons (j_var 2 rfl (Mn.mono x011 hc)) (ja_cons (K := kD (dNs (b2 ++ [ch]))) (by
          rw [ebr]
          exact j_op (ok_cat (by rw [List.length_map]; show b2.length + 1 ≤ 1000000; omega)) (j_var 3 rfl (Mn.mono (M := M0) (K := kD (dNs b2)) x11 k3')) (j_tup1 (j_var 6 rfl (Mn.mono (M := M0) (K := kI (ch : Int)) x11 k6')))) ja_nil))))) fun v10 H12 x12 k10 => ?_
      rw [dRs_eq] at k10
      refine g_pair k10 fun w1 w2 r1 r2 => ?_
      refine s_when (M := M0) (t := decide (rsW r = "knot")) (jt_cmp ok_eqS (j_var 10 rfl (K := kD (.str (rsW r))) r1) j_str) (fun q4 H13 x13 => ?_) fun q4 H13 x13 => ?_
      · cases r with
        | tree t => exact absurd (of_decide_eq_true q4) (show ¬ (("tree" : Str) = "knot") by decide)
        | knot qk =>
          rw [hsr] at hq
          exact s_ret (M := M0) (j_tup2 (j_var 10 rfl (Mn.mono (M := M0) (K := kD (.str "knot")) x13 r1)) (j_var 11 rfl (Mn.mono (M := M0) (K := kD (dPrs qk)) x13 r2))) fun v H14 x14 kk => hq v H14 (((x011.trans x12).trans x13).trans x14) kk
      · cases r with
        | knot qk => exact absurd rfl (of_decide_eq_false q4)
        | tree t =>
          rw [hsr] at hq
          have ot' := ((ot.up x11).up x12).up x13
          have tmx := ((x11.trans x12).trans x13).tm
          refine s_append (M := M0) 8 (K := kD (dTr t)) rfl ot'.1 (j_var 11 rfl (Mn.mono (M := M0) (K := kD (dTr t)) x13 r2)) (by rw [ot'.len, dTrs_map, List.length_map]; omega) id fun v14 H14 x14 kv e14 => s_nil ?_
          have ot2 := (ot'.up x14).app kv
          have eT : dTrs ts ++ [dTr t] = dTrs (ts ++ [t]) := by rw [dTrs_map, dTrs_map, List.map_append]; rfl
          rw [eT] at ot2
          have tm2 := (tmx.trans x14.tm).trans (Tm.lst (o := .lst (xs ++ [v14])) e14)
          have x015 : Xt M0 H (upd H14 pt (.lst (xs ++ [v14]))) := (((x011.trans x12).trans x13).trans x14).mut npt
          exact s_ret (M := M0) (j_tup2 j_str (j_tup4 j_str (j_var 4 rfl (K := kD (dNs (F.idle L chosen barred))) (Rp.tm tm2 _ k4')) (j_var 6 rfl (K := kI (ch : Int)) (Rp.tm tm2 _ k6')) (j_tupL B (j_var 8 rfl ot2.kl)))) fun v H16 x16 kk => hq v H16 (x015.trans x16) (by rw [show dRs (.tree (.sp (F.idle L chosen barred) ch (ts ++ [t]))) = .tuple [.str "tree", .tuple [.str "split", dNs (F.idle L chosen barred), dI ch, .tuple (dTrs (ts ++ [t]))]] by simp [dRs, dTr]]; exact kk)
    · rw [if_neg (of_decide_eq_false q3)] at hsr
      rw [hsr] at hq
      have ot' := ot.up x11
      exact s_nil (s_ret (M := M0) (j_tup2 j_str (j_tup4 j_str (j_var 4 rfl (Mn.mono (M := M0) (K := kD (dNs (F.idle L chosen barred))) x11 k4')) (j_var 6 rfl (Mn.mono (M := M0) (K := kI (ch : Int)) x11 k6')) (j_tupL B (j_var 8 rfl ot'.kl)))) fun v H16 x16 kk => hq v H16 ((x10.trans x11).trans x16) (by rw [show dRs (.tree (.sp (F.idle L chosen barred) ch ts)) = .tuple [.str "tree", .tuple [.str "split", dNs (F.idle L chosen barred), dI ch, .tuple (dTrs ts)]] by simp [dRs, dTr]]; exact kk))
end
end K68

set_option Elab.async false
set_option linter.all false
set_option maxRecDepth 100000
/-! K68, text M4: all ways are met; worm knots; the search is right. -/
namespace K68
open PySem PySem.Spec L2 PySem.W
open PyProof.Rows hiding St
/-! ### all ways are met -/
theorem ll_app (F : Fab) {a : List Nat} (b : List Nat) (h : a ≠ []) : F.ll (a ++ b) = F.ll a + (b.map fun c => (F.C c).r).sum := by
  cases a with
  | nil => exact absurd rfl h
  | cons x r =>
    unfold Fab.ll
    show 1 + ((r ++ b).map _).sum = 1 + (r.map _).sum + _
    rw [List.map_append, List.sum_append]
    omega
theorem ll_pre (F : Fab) {a b : List Nat} (hb : b ≠ []) : F.ll b ≤ F.ll (a ++ b) := by
  cases a with
  | nil => exact Nat.le_refl _
  | cons x r =>
    cases b with
    | nil => exact absurd rfl hb
    | cons y s =>
      unfold Fab.ll
      show 1 + (s.map _).sum ≤ 1 + ((r ++ (y :: s)).map _).sum
      rw [List.map_append, List.sum_append, List.map_cons, List.sum_cons]
      omega
theorem lB_all {F : Fab} (ok : F.Ok) {L : Nat} {out : List Nat} {d : Nat} : ∀ (t w : List Nat), Good F (w ++ t) → w ≠ [] → Off out (w ++ t) → Chn F d (w ++ t) → F.ll (w ++ t) ≤ L → w ++ t ∈ F.lB L out d w
  | [], w, g, h0, ho, hc, hl => by
    rw [List.append_nil] at *
    rw [lB_eq ok g, if_pos hl]
    exact List.mem_cons_self
  | c :: t, w, g, h0, ho, hc, hl => by
    have gw : Good F w := ⟨h0, (List.nodup_append.mp g.nd).1, fun x hx => g.lt x (List.mem_append_left _ hx)⟩
    have e : w ++ c :: t = (w ++ [c]) ++ t := by rw [List.append_assoc]; rfl
    have hle : F.ll w ≤ L := by rw [ll_app F _ h0] at hl; omega
    rw [lB_eq ok gw, if_pos hle]
    refine List.mem_cons_of_mem _ (List.mem_flatMap.mpr ⟨w ++ [c], List.mem_reverse.mpr (kB_mem.mpr ⟨c, ?_, ?_, ?_, rfl⟩), ?_⟩)
    · rw [e] at hc
      exact ((Chn.snoc h0).mp (Chn.left hc)).2
    · intro hm
      have := (List.nodup_append.mp g.nd).2.2 c hm c List.mem_cons_self
      exact this rfl
    · exact ho c (by simp)
    · rw [e] at g ho hc hl ⊢
      exact lB_all ok t (w ++ [c]) g (by simp) ho hc hl
theorem lA_all {F : Fab} (ok : F.Ok) {L : Nat} {out : List Nat} {d : Nat} : ∀ (n : Nat) (t w : List Nat), t.length = n → Good F (t ++ w) → w ≠ [] → Off out (t ++ w) → Chn F d (t ++ w) → (t ++ w).headD 0 ∈ F.op (F.C ((t ++ w).headD 0)).u d → F.ll (t ++ w) ≤ L → t ++ w ∈ F.lA L out d w
  | 0, t, w, hn, g, h0, ho, hc, hh, hl => by
    have : t = [] := List.length_eq_zero_iff.mp hn
    subst this
    rw [List.nil_append] at *
    rw [lA_eq g, if_pos hl]
    exact List.mem_cons_self
  | n + 1, t, w, hn, g, h0, ho, hc, hh, hl => by
    have ht : t ≠ [] := fun z => by rw [z] at hn; cases hn
    obtain ⟨s, c, rfl⟩ : ∃ s c, t = s ++ [c] := ⟨t.dropLast, t.getLast ht, (List.dropLast_concat_getLast ht).symm⟩
    have hs : s.length = n := by rw [List.length_append] at hn; simpa using hn
    have e : (s ++ [c]) ++ w = s ++ (c :: w) := by rw [List.append_assoc]; rfl
    have gw : Good F w := ⟨h0, (List.nodup_append.mp g.nd).2.1, fun x hx => g.lt x (List.mem_append_right _ hx)⟩
    have hle : F.ll w ≤ L := Nat.le_trans (ll_pre F h0) hl
    have hcw : Chn F d (c :: w) := by rw [e] at hc; exact Chn.right hc
    rw [lA_eq gw, if_pos hle]
    refine List.mem_cons_of_mem _ (List.mem_flatMap.mpr ⟨c :: w, List.mem_reverse.mpr (kA_mem.mpr ⟨c, g.lt c (by simp), okA_iff.mpr ⟨?_, ?_, ?_, ?_⟩, rfl⟩), ?_⟩)
    · cases w with
      | nil => exact absurd rfl h0
      | cons b r => exact ((ok.op _ _ _ hcw.1).2).symm
    · intro hm
      have := (List.nodup_append.mp g.nd).2.2 c (by simp) c hm
      exact this rfl
    · exact ho c (by simp)
    · cases s with
      | nil => exact hh
      | cons x r =>
        have h2 : Chn F d ((x :: r) ++ [c]) := by rw [List.append_assoc] at hc; exact Chn.left (a := (x :: r) ++ [c]) (b := w) (by rw [List.append_assoc]; exact hc)
        have h3 := ((Chn.snoc (F := F) (d := d) (c := c) (w := x :: r) (by simp)).mp h2).2
        have h4 := (ok.op _ _ _ h3).2
        unfold Fab.wo at h3
        rw [h4]
        exact h3
    · rw [e] at g ho hc hh hl ⊢
      exact lA_all ok n s (c :: w) hs g (by simp) ho hc hh hl
theorem wt_all {F : Fab} (ok : F.Ok) {L : Nat} {out : List Nat} {d c : Nat} {x : List Nat} (hx : Way F L d x) (hc : c ∈ x) (ho : Off out x) : x ∈ F.wt L out d c := by
  obtain ⟨a, b, rfl⟩ := List.append_of_mem hc
  have hcc : c ∈ F.op (F.C c).u d := by
    cases a with
    | nil => exact hx.head
    | cons y r =>
      have h2 : Chn F d ((y :: r) ++ [c]) := Chn.left (a := (y :: r) ++ [c]) (b := b) (by rw [List.append_assoc]; exact hx.chn)
      have h3 := ((Chn.snoc (F := F) (d := d) (c := c) (w := y :: r) (by simp)).mp h2).2
      have h4 := (ok.op _ _ _ h3).2
      unfold Fab.wo at h3
      rw [h4]
      exact h3
  have hb : (c :: b) ≠ [] := by simp
  have g1 : Good F (c :: b) := ⟨hb, (List.nodup_append.mp hx.good.nd).2.1, fun z hz => hx.good.lt z (List.mem_append_right _ hz)⟩
  unfold Fab.wt
  rw [if_pos hcc]
  refine List.mem_flatMap.mpr ⟨[c] ++ b, lB_all ok b [c] g1 (by simp) (fun z hz => ho z (List.mem_append_right _ hz)) (Chn.right hx.chn) (Nat.le_trans (ll_pre F hb) hx.ll), ?_⟩
  have hlast : (F.C (([c] ++ b).getLastD 0)).v ≠ d := by
    have := hx.last
    rw [last_app a hb] at this
    exact this
  rw [if_pos hlast]
  exact lA_all ok _ a ([c] ++ b) rfl hx.good (by simp) ho hx.chn hx.head hx.ll
theorem cand_all {F : Fab} (ok : F.Ok) {L : Nat} {chosen : List Pr} {barred : List Nat} {c : Nat} {p : Pr} (hp : p.1 < F.n) (hw : Way F L p.1 p.2) (hc : c ∈ p.2) (ho : Off (barred ++ heldL chosen) p.2) (hb : Off barred (F.wo p.1 p.2)) : p ∈ F.cand L chosen barred c := by
  unfold Fab.cand
  rw [if_neg (ho c hc)]
  refine (List.mergeSort_perm (F.cand0 L chosen barred c) _).mem_iff.mpr ?_
  unfold Fab.cand0
  refine List.mem_flatMap.mpr ⟨p.1, List.mem_range.mpr hp, List.mem_map.mpr ⟨p.2, List.mem_filter.mpr ⟨wt_all ok hw hc ho, ?_⟩, rfl⟩⟩
  rw [Bool.not_eq_true', ← Bool.not_eq_true, List.any_eq_true]
  rintro ⟨x, hx, hd⟩
  exact hb x hx (of_decide_eq_true hd)
/-! ### worm knots -/
structure WK (F : Fab) (L : Nat) (ps : List Pr) : Prop where
  ne : ps ≠ []
  way : ∀ p ∈ ps, p.1 < F.n ∧ Way F L p.1 p.2
  nd : (heldL ps).Nodup
  cl : ∀ p ∈ ps, ∀ c ∈ F.wo p.1 p.2, c ∈ heldL ps
theorem heldL_mem {ps : List Pr} {c : Nat} : c ∈ heldL ps ↔ ∃ p ∈ ps, c ∈ p.2 := List.mem_flatMap
theorem WK.perm {F : Fab} {L : Nat} {ps qs : List Pr} (h : WK F L ps) (e : ps.Perm qs) : WK F L qs := by
  have eh : (heldL ps).Perm (heldL qs) := e.flatMap_right _
  exact ⟨fun z => h.ne (by rw [z] at e; exact List.Perm.eq_nil e), fun p hp => h.way p (e.mem_iff.mpr hp), eh.nodup_iff.mp h.nd, fun p hp c hc => eh.mem_iff.mp (h.cl p (e.mem_iff.mpr hp) c hc)⟩
theorem Way.mono {F : Fab} {L L' d : Nat} {w : List Nat} (h : Way F L d w) (hl : L ≤ L') : Way F L' d w := ⟨h.good, h.chn, h.head, Nat.le_trans h.ll hl, h.last⟩
theorem WK.mono {F : Fab} {L L' : Nat} {ps : List Pr} (h : WK F L ps) (hl : L ≤ L') : WK F L' ps := ⟨h.ne, fun p hp => ⟨(h.way p hp).1, (h.way p hp).2.mono hl⟩, h.nd, h.cl⟩
theorem WK.at {F : Fab} {L L' : Nat} {ps : List Pr} (h : WK F L ps) (hl : ∀ p ∈ ps, F.ll p.2 ≤ L') : WK F L' ps := ⟨h.ne, fun p hp => ⟨(h.way p hp).1, (h.way p hp).2.good, (h.way p hp).2.chn, (h.way p hp).2.head, hl p hp, (h.way p hp).2.last⟩, h.nd, h.cl⟩
end K68

set_option Elab.async false
set_option linter.all false
set_option maxRecDepth 100000
/-! K68, text M5: the search is right. -/
namespace K68
open PySem PySem.Spec L2 PySem.W
open PyProof.Rows hiding St
theorem loop_er {f : Pr → Rs} : ∀ {ps : List Pr} {ts : List Tr} {q : List Pr}, loopS f ps ts = .error q → ∃ p ∈ ps, f p = .knot q
  | [], ts, q, h => by cases h
  | p :: ps, ts, q, h => by
    unfold loopS at h
    cases e : f p with
    | knot q' =>
      rw [e] at h
      cases h
      exact ⟨p, List.mem_cons_self, e⟩
    | tree t =>
      rw [e] at h
      obtain ⟨p', h1, h2⟩ := loop_er h
      exact ⟨p', List.mem_cons_of_mem _ h1, h2⟩
theorem loop_ok {f : Pr → Rs} : ∀ {ps : List Pr} {ts us : List Tr}, loopS f ps ts = .ok us → ∃ vs, us = ts ++ vs ∧ vs.length = ps.length ∧ ∀ (i : Nat) (p : Pr), ps[i]? = some p → ∃ t, vs[i]? = some t ∧ f p = .tree t
  | [], ts, us, h => by
    cases h
    exact ⟨[], by simp, rfl, fun i p e => by simp at e⟩
  | p :: ps, ts, us, h => by
    unfold loopS at h
    cases e : f p with
    | knot q' => rw [e] at h; cases h
    | tree t =>
      rw [e] at h
      obtain ⟨vs, e1, e2, e3⟩ := loop_ok h
      refine ⟨t :: vs, by rw [e1, List.append_assoc]; rfl, by rw [List.length_cons, List.length_cons, e2], fun i p' hp => ?_⟩
      cases i with
      | zero =>
        simp only [List.getElem?_cons_zero, Option.some.injEq] at hp
        subst hp
        exact ⟨t, rfl, e⟩
      | succ i =>
        simp only [List.getElem?_cons_succ] at hp ⊢
        exact e3 i p' hp
theorem nd_same {ps : List Pr} (h : (heldL ps).Nodup) {p q : Pr} {c : Nat} (hp : p ∈ ps) (hq : q ∈ ps) (h1 : c ∈ p.2) (h2 : c ∈ q.2) : p = q := by
  induction ps with
  | nil => cases hp
  | cons r rs ih =>
    have e : heldL (r :: rs) = r.2 ++ heldL rs := rfl
    rw [e, List.nodup_append] at h
    rcases List.mem_cons.mp hp with hp2 | hp2
    · rcases List.mem_cons.mp hq with hq2 | hq2
      · rw [hp2, hq2]
      · rw [hp2] at h1
        exact absurd rfl (h.2.2 c h1 c (heldL_mem.mpr ⟨q, hq2, h2⟩))
    · rcases List.mem_cons.mp hq with hq2 | hq2
      · rw [hq2] at h2
        exact absurd rfl (h.2.2 c h2 c (heldL_mem.mpr ⟨p, hp2, h1⟩))
      · exact ih h.2.1 hp2 hq2
/-- κ holds what is chosen and keeps off what is barred -/
structure Fits (F : Fab) (L : Nat) (chosen : List Pr) (barred : List Nat) (κ : List Pr) : Prop where
  wk : WK F L κ
  sub : ∀ p ∈ chosen, p ∈ κ
  off : Off barred (heldL κ)
theorem Fits.cand {F : Fab} (ok : F.Ok) {L : Nat} {chosen : List Pr} {barred : List Nat} {κ : List Pr} (h : Fits F L chosen barred κ) {c : Nat} (hc : c ∈ heldL κ) (hn : c ∉ heldL chosen) : ∃ p ∈ κ, c ∈ p.2 ∧ p ∈ F.cand L chosen barred c := by
  obtain ⟨p, hp, hcp⟩ := heldL_mem.mp hc
  refine ⟨p, hp, hcp, cand_all ok (h.wk.way p hp).1 (h.wk.way p hp).2 hcp (fun z hz hz2 => ?_) fun z hz => h.off z (h.wk.cl p hp z hz)⟩
  rcases List.mem_append.mp hz2 with q | q
  · exact h.off z (heldL_mem.mpr ⟨p, hp, hz⟩) q
  · obtain ⟨r, hr, hzr⟩ := heldL_mem.mp q
    have e := nd_same h.wk.nd hp (h.sub r hr) hz hzr
    subst e
    exact hn (heldL_mem.mpr ⟨p, hr, hcp⟩)
theorem Fits.order {F : Fab} (ok : F.Ok) {L : Nat} {chosen : List Pr} {barred : List Nat} {κ : List Pr} (h : Fits F L chosen barred κ) {o : List Nat} (ho : Ord F L chosen barred o) : Fits F L chosen (barred ++ o) κ := by
  have key : ∀ k, k ≤ o.length → Fits F L chosen (barred ++ o.take k) κ := by
    intro k
    induction k with
    | zero => intro _; rw [List.take_zero, List.append_nil]; exact h
    | succ k ih =>
      intro hk
      have f := ih (by omega)
      have e : o[k]? = some o[k] := by simp
      obtain ⟨q1, q2, q3⟩ := ho.ok k _ e
      rw [List.take_add_one, e, Option.toList_some, ← List.append_assoc]
      refine ⟨h.wk, h.sub, fun c hc hb => ?_⟩
      rcases List.mem_append.mp hb with z | z
      · exact f.off c hc z
      · rw [List.mem_singleton] at z
        subst z
        obtain ⟨p, _, _, hm⟩ := f.cand ok hc q1
        rw [q3] at hm
        cases hm
  have := key o.length (Nat.le_refl _)
  rw [List.take_length] at this
  exact this
theorem isC_all {F : Fab} {b : List Nat} (hlt : ∀ c ∈ b, c < F.m) : ((ddN b).length = F.m ↔ ∀ c, c < F.m → c ∈ b) := by
  constructor
  · intro h c hc
    refine Classical.byContradiction fun hn => ?_
    have := nodup_le (c :: ddN b) (List.range F.m) (List.nodup_cons.mpr ⟨fun z => hn (ddN_mem.mp z), ddN_nd b⟩) fun x hx => by
      rw [List.mem_range]
      rcases List.mem_cons.mp hx with z | z
      · rw [z]; exact hc
      · exact hlt x (ddN_mem.mp z)
    rw [List.length_range, List.length_cons] at this
    omega
  · intro h
    have h1 := nodup_le (ddN b) (List.range F.m) (ddN_nd b) fun x hx => List.mem_range.mpr (hlt x (ddN_mem.mp hx))
    have h2 := nodup_le (List.range F.m) (ddN b) List.nodup_range fun x hx => ddN_mem.mpr (h x (List.mem_range.mp hx))
    rw [List.length_range] at h1 h2
    omega
def Right (F : Fab) (L : Nat) (chosen : List Pr) (barred : List Nat) : Rs → Prop
  | .knot q => ∃ ps, q = sortP ps ∧ WK F L ps
  | .tree _ => ∀ κ, ¬ Fits F L chosen barred κ
theorem srch_right {F : Fab} (ok : F.Ok) {L : Nat} : ∀ (k : Nat) (chosen : List Pr) (barred : List Nat), Stt F chosen barred → (∀ p ∈ chosen, Way F L p.1 p.2) → F.m + 1 ≤ k + (heldL chosen ++ barred).length → Right F L chosen barred (F.srch L k chosen barred)
  | 0, chosen, barred, st, hw, hk => by have := st.len; omega
  | k + 1, chosen, barred, st, hw, hk => by
    have ord := Ord.idle (F := F) (L := L) (chosen := chosen) (barred := barred)
    obtain ⟨b2, hb2⟩ : ∃ b2, b2 = barred ++ F.idle L chosen barred := ⟨_, rfl⟩
    have st2 : Stt F chosen b2 := by rw [hb2]; exact st.order
    have hge : (heldL chosen ++ barred).length ≤ (heldL chosen ++ b2).length := by rw [hb2, List.length_append, List.length_append, List.length_append]; omega
    have fit2 : ∀ κ, Fits F L chosen barred κ → Fits F L chosen b2 κ := fun κ h => by rw [hb2]; exact h.order ok ord
    cases hC : F.isC chosen b2 with
    | true =>
      rw [srch_cl hb2 hC]
      intro κ hf
      have f2 := fit2 κ hf
      unfold Fab.isC at hC
      by_cases q : chosen.length = 0
      · rw [if_pos q] at hC
        have hall := (isC_all st2.lt).mp (of_decide_eq_true hC)
        cases hκ : κ with
        | nil => exact f2.wk.ne hκ
        | cons p r =>
          have hp : p ∈ κ := by rw [hκ]; exact List.mem_cons_self
          have g := (f2.wk.way p hp).2.good
          have hm : p.2.headD 0 ∈ p.2 := by
            have := g.ne
            cases hz : p.2 with
            | nil => exact absurd hz this
            | cons x s => exact List.mem_cons_self
          exact f2.off _ (heldL_mem.mpr ⟨p, hp, hm⟩) (hall _ (g.lt _ hm))
      · rw [if_neg q] at hC
        obtain ⟨c, hc, hd⟩ := List.any_eq_true.mp hC
        obtain ⟨p, hp, hpc⟩ := List.mem_flatMap.mp (sN_mem.mp hc)
        exact f2.off c (f2.wk.cl p (f2.sub p hp) c hpc) (of_decide_eq_true hd)
    | false =>
      by_cases hl : F.opC chosen b2 = []
      · rw [srch_kn hb2 hC hl]
        refine ⟨chosen, rfl, ?_⟩
        have hne : chosen ≠ [] := fun z => by
          subst z
          have hall : ∀ c, c < F.m → c ∈ b2 := fun c hc => by
            refine Classical.byContradiction fun hn => ?_
            have : c ∈ F.opC [] b2 := by
              unfold Fab.opC
              rw [if_neg (by simp)]
              refine List.mem_filter.mpr ⟨List.mem_range.mpr hc, ?_⟩
              simp [heldL, hn]
            rw [hl] at this
            cases this
          unfold Fab.isC at hC
          rw [if_pos (show ([] : List Pr).length = 0 from rfl), decide_eq_true ((isC_all st2.lt).mpr hall)] at hC
          cases hC
        have hpos : 0 < chosen.length := List.length_pos_iff.mpr hne
        refine ⟨hne, fun p hp => ⟨(st.pr p hp).1, hw p hp⟩, (List.nodup_append.mp st.nd).1, fun p hp c hc => ?_⟩
        have ho : c ∈ F.aO chosen := sN_mem.mpr (List.mem_flatMap.mpr ⟨p, hp, hc⟩)
        have hnb : c ∉ b2 := fun hb => by
          unfold Fab.isC at hC
          rw [if_neg (by omega)] at hC
          have : (F.aO chosen).any (fun c => decide (c ∈ b2)) = true := List.any_eq_true.mpr ⟨c, ho, decide_eq_true hb⟩
          rw [this] at hC
          cases hC
        refine Classical.byContradiction fun hn => ?_
        have : c ∈ F.opC chosen b2 := by
          unfold Fab.opC
          rw [if_pos hpos]
          refine List.mem_filter.mpr ⟨ho, ?_⟩
          simp [hn, hnb]
        rw [hl] at this
        cases this
      · obtain ⟨ch, hch⟩ : ∃ ch, ch = F.pick L chosen b2 (F.opC chosen b2) := ⟨_, rfl⟩
        have hin : ch ∈ F.opC chosen b2 := hch ▸ pick_mem hl
        have hcm := opC_mem ok hin
        have ih : ∀ p ∈ F.cand L chosen b2 ch, Right F L (chosen ++ [p]) b2 (F.srch L k (chosen ++ [p]) b2) := fun p hp => by
          obtain ⟨s1, s2⟩ := st2.pair ok hcm.1 hp
          have hs := cand_sound ok hcm.1 hp
          refine srch_right ok k _ _ s1 (fun q hq => ?_) (by omega)
          rcases List.mem_append.mp hq with z | z
          · exact hw q z
          · rw [List.mem_singleton.mp z]; exact hs.2.1
        cases hlp : F.loop L k chosen b2 ch with
        | error q =>
          rw [srch_er hb2 hC hl hch hlp]
          obtain ⟨p, hp, e⟩ := loop_er hlp
          have := ih p hp
          rw [e] at this
          exact this
        | ok ts =>
          rw [srch_ok hb2 hC hl hch hlp]
          obtain ⟨vs, e1, e2, e3⟩ := loop_ok hlp
          have none : ∀ κ, Fits F L chosen b2 κ → ch ∉ heldL κ := fun κ f hc => by
            obtain ⟨p, hp, hcp, hm⟩ := f.cand ok hc hcm.2.1
            obtain ⟨i, hi⟩ := List.getElem?_of_mem hm
            obtain ⟨t, _, et⟩ := e3 i p hi
            have := ih p hm
            rw [et] at this
            exact this κ ⟨f.wk, fun r hr => by
              rcases List.mem_append.mp hr with z | z
              · exact f.sub r z
              · rw [List.mem_singleton.mp z]; exact hp, f.off⟩
          by_cases hc0 : chosen.length = 0
          · rw [if_pos hc0]
            have stb := st2.bar hcm.1 hcm.2.1 hcm.2.2
            have ih2 := srch_right ok k chosen (b2 ++ [ch]) stb hw (by rw [← List.append_assoc, List.length_append]; show F.m + 1 ≤ k + ((heldL chosen ++ b2).length + 1); omega)
            cases hs : F.srch L k chosen (b2 ++ [ch]) with
            | knot q => rw [hs] at ih2; exact ih2
            | tree t =>
              rw [hs] at ih2
              intro κ hf
              have f2 := fit2 κ hf
              refine ih2 κ ⟨f2.wk, f2.sub, fun c hc hb => ?_⟩
              rcases List.mem_append.mp hb with z | z
              · exact f2.off c hc z
              · rw [List.mem_singleton] at z
                subst z
                exact none κ f2 hc
          · rw [if_neg hc0]
            intro κ hf
            have f2 := fit2 κ hf
            refine none κ f2 ?_
            unfold Fab.opC at hin
            rw [if_pos (by omega)] at hin
            obtain ⟨p, hp, hpc⟩ := List.mem_flatMap.mp (sN_mem.mp (List.mem_filter.mp hin).1)
            exact f2.wk.cl p (f2.sub p hp) ch hpc
end K68

set_option Elab.async false
set_option linter.all false
set_option maxRecDepth 100000
/-! K68, text M6: what find_worm_knot finds; sorted knots. -/
namespace K68
open PySem PySem.Spec L2 PySem.W
open PyProof.Rows hiding St
theorem ltNats {x y : Nat} {a b : List Nat} (h : x ≠ y) : dataLt (dNs (x :: a)) (dNs (y :: b)) = decide (x < y) := by
  show dataLt (.tuple (dI x :: a.map dI)) (.tuple (dI y :: b.map dI)) = _
  have ha : alike (dI x) (dI y) = true := by unfold dI; simp [alike]
  have he : PyData.eqv (dI x) (dI y) = false := by
    unfold dI
    simp only [PyData.eqv]
    rw [beq_eq_false_iff_ne]
    omega
  rw [dataLt_tuple, dataLt_cons ha, he, if_neg Bool.false_ne_true]
  show dataLt (.int _) (.int _) = _
  rw [dataLt_int]
  exact decide_eq_decide.mpr ⟨fun h => by omega, fun h => by omega⟩
theorem eqvNats {x y : Nat} {a b : List Nat} (h : x ≠ y) : PyData.eqv (dNs (x :: a)) (dNs (y :: b)) = false := by
  show PyData.eqv (.tuple (dI x :: a.map dI)) (.tuple (dI y :: b.map dI)) = false
  have he : PyData.eqv (dI x) (dI y) = false := by
    unfold dI
    simp only [PyData.eqv]
    rw [beq_eq_false_iff_ne]
    omega
  simp only [PyData.eqv, PyData.eqvAll, he, Bool.false_and]
/-- pairs whose ways begin apart -/
theorem ltPr {p q : Pr} {x y : Nat} {a b : List Nat} (hp : p.2 = x :: a) (hq : q.2 = y :: b) (h : x ≠ y) : dataLt (dPr p) (dPr q) = decide (p.1 < q.1 ∨ (p.1 = q.1 ∧ x < y)) := by
  obtain ⟨d, w⟩ := p
  obtain ⟨e, v⟩ := q
  have hp : w = x :: a := hp
  have hq : v = y :: b := hq
  subst hp hq
  show dataLt (.tuple [dI d, dNs (x :: a)]) (.tuple [dI e, dNs (y :: b)]) = _
  have h1 : alike (dI d) (dI e) = true := by unfold dI; simp [alike]
  have h2 : alike (dNs (x :: a)) (dNs (y :: b)) = true := by unfold dNs; simp only [alike]; exact alike_nats _ _
  rw [dataLt_pair h1 h2, eqvNats h, ltNats h]
  have h3 : PyData.eqv (dI d) (dI e) = decide (d = e) := by
    unfold dI
    simp only [PyData.eqv]
    by_cases q : d = e
    · subst q; simp
    · rw [decide_eq_false q, beq_eq_false_iff_ne]
      omega
  have h4 : dataLt (dI d) (dI e) = decide (d < e) := by
    unfold dI
    rw [dataLt_int]
    exact decide_eq_decide.mpr ⟨fun h => by omega, fun h => by omega⟩
  rw [h3, h4]
  by_cases q : d = e
  · subst q
    rw [decide_eq_true rfl, if_pos rfl, if_neg Bool.false_ne_true]
    exact decide_eq_decide.mpr ⟨fun h => .inr ⟨rfl, h⟩, fun h => h.elim (fun z => absurd z (Nat.lt_irrefl _)) fun z => z.2⟩
  · rw [decide_eq_false q, if_neg Bool.false_ne_true]
    exact decide_eq_decide.mpr ⟨.inl, fun h => h.elim id fun z => absurd z.1 q⟩
theorem sortP_perm (ps : List Pr) : (sortP ps).Perm ps := List.mergeSort_perm _ _
theorem sortP_pw (ps : List Pr) : (sortP ps).Pairwise (fun a b => dataLt (dPr b) (dPr a) = false) := by
  have h := List.pairwise_mergeSort (le := dataLe false dPr) (fun a b c h1 h2 => (sortLe_total (listOrd itemOrd) false fun b => keyToks (dPr b)).trans a b c h1 h2) (fun a b => by
    have := (sortLe_total (listOrd itemOrd) false fun b => keyToks (dPr b)).total a b
    rw [Bool.or_eq_true]
    exact this) ps
  refine h.imp fun {a b} h => ?_
  rw [dataLe_eq] at h
  have h : (!dataLt (dPr b) (dPr a)) = true := h
  cases e : dataLt (dPr b) (dPr a) with
  | false => rfl
  | true => rw [e] at h; cases h
/-- upwards -/
def Asc (ps : List Pr) : Prop := ∀ (k : Nat) (p q : Pr), ps[k]? = some p → ps[k + 1]? = some q → dataLt (dPr p) (dPr q) = true
theorem sortP_asc {F : Fab} {L : Nat} {ps : List Pr} (h : WK F L ps) : Asc (sortP ps) := by
  have hs := h.perm (sortP_perm ps).symm
  intro k p q hp hq
  have hpw := sortP_pw ps
  have hkp := (List.getElem?_eq_some_iff.mp hp)
  have hkq := (List.getElem?_eq_some_iff.mp hq)
  have hlt := List.pairwise_iff_getElem.mp hpw k (k + 1) hkp.1 hkq.1 (Nat.lt_succ_self k)
  rw [hkp.2, hkq.2] at hlt
  have mp := List.mem_of_getElem? hp
  have mq := List.mem_of_getElem? hq
  have gp := (hs.way p mp).2.good
  have gq := (hs.way q mq).2.good
  cases ep : p.2 with
  | nil => exact absurd ep gp.ne
  | cons x a =>
    cases eq : q.2 with
    | nil => exact absurd eq gq.ne
    | cons y b =>
      have hne : x ≠ y := fun z => by
        have h1 : x ∈ p.2 := by rw [ep]; exact List.mem_cons_self
        have h2 : x ∈ q.2 := by rw [eq, z]; exact List.mem_cons_self
        -- the same channel at two places
        have hn := hs.nd
        have key : ∀ (l : List Pr) (k : Nat) (p q : Pr) (c : Nat), (heldL l).Nodup → l[k]? = some p → l[k + 1]? = some q → c ∈ p.2 → c ∈ q.2 → False := by
          intro l
          induction l with
          | nil => intro k p q c _ h; simp at h
          | cons r rs ih =>
            intro k p q c hn h1 h2 h3 h4
            have e : heldL (r :: rs) = r.2 ++ heldL rs := rfl
            rw [e, List.nodup_append] at hn
            cases k with
            | zero =>
              simp only [List.getElem?_cons_zero, Option.some.injEq] at h1
              simp only [List.getElem?_cons_succ] at h2
              subst h1
              exact hn.2.2 c h3 c (heldL_mem.mpr ⟨q, List.mem_of_getElem? h2, h4⟩) rfl
            | succ k =>
              simp only [List.getElem?_cons_succ] at h1 h2
              exact ih k p q c hn.2.1 h1 h2 h3 h4
        exact key _ k p q x hn hp hq h1 h2
      rw [ltPr eq ep hne.symm] at hlt
      rw [ltPr ep eq hne]
      have := of_decide_eq_false hlt
      exact decide_eq_true (by omega)
structure WKS (F : Fab) (L : Nat) (ps : List Pr) : Prop where
  wk : WK F L ps
  asc : Asc ps
theorem WKS.of {F : Fab} {L : Nat} {ps : List Pr} (h : WK F L ps) : WKS F L (sortP ps) := ⟨h.perm (sortP_perm ps).symm, sortP_asc h⟩
theorem WKS.mono {F : Fab} {L L' : Nat} {ps : List Pr} (h : WKS F L ps) (hl : L ≤ L') : WKS F L' ps := ⟨h.wk.mono hl, h.asc⟩
def Fab.kn (F : Fab) (L : Nat) : Option (List Pr) := match F.srch L 7 [] [] with
  | .knot q => some q
  | .tree _ => none
theorem stt0 (F : Fab) : Stt F [] [] := ⟨fun p h => (by cases h), List.nodup_nil, fun c h => (by cases h)⟩
theorem right0 {F : Fab} (ok : F.Ok) (L : Nat) : Right F L [] [] (F.srch L 7 [] []) := srch_right ok 7 [] [] (stt0 F) (fun p h => by cases h) (by have := ok.m6; show F.m + 1 ≤ 7 + 0; omega)
theorem kn_some {F : Fab} (ok : F.Ok) {L : Nat} {q : List Pr} (h : F.kn L = some q) : WKS F L q := by
  have r := right0 ok L
  unfold Fab.kn at h
  cases e : F.srch L 7 [] [] with
  | tree t => rw [e] at h; cases h
  | knot q' =>
    rw [e] at h r
    cases h
    obtain ⟨ps, rfl, hw⟩ := r
    exact WKS.of hw
theorem kn_none {F : Fab} (ok : F.Ok) {L : Nat} (h : F.kn L = none) (κ : List Pr) : ¬ WK F L κ := by
  have r := right0 ok L
  unfold Fab.kn at h
  cases e : F.srch L 7 [] [] with
  | knot q' => rw [e] at h; cases h
  | tree t =>
    rw [e] at r
    exact fun hw => r κ ⟨hw, fun p h => (by cases h), fun c _ h => (by cases h)⟩
theorem kn_mono {F : Fab} (ok : F.Ok) {L L' : Nat} (hl : L ≤ L') (h : F.kn L' = none) : F.kn L = none := by
  cases e : F.kn L with
  | none => rfl
  | some q => exact absurd ((kn_some ok e).wk.mono hl) (kn_none ok h q)
theorem WK.len {F : Fab} (ok : F.Ok) {L : Nat} {ps : List Pr} (h : WK F L ps) : ps.length ≤ 6 ∧ (heldL ps).length ≤ 6 := by
  have h1 := nodup_le _ (List.range F.m) h.nd fun k hk => by
    obtain ⟨p, hp, hz⟩ := heldL_mem.mp hk
    exact List.mem_range.mpr ((h.way p hp).2.good.lt k hz)
  rw [List.length_range] at h1
  have h2 := held_ge (F := F) (chosen := ps) fun p hp => ⟨(h.way p hp).1, (h.way p hp).2.good⟩
  have := ok.m6
  omega
end K68

set_option Elab.async false
set_option linter.all false
set_option maxRecDepth 100000
set_option maxHeartbeats 1000000
/-! K68, text B13: worm_verdict, find_worm_knot, is_order. -/
namespace K68
open PySem PySem.Spec L2
open PyProof.Rows hiding St
def dKn : Option (List Pr) → PyData
  | some q => dPrs q
  | none => .none
theorem ok_inO {X : Cx} {c : Nat} {out : List Nat} (hu : X.A.units + 1 < cLine) : OpK M0 (compareOp .In) X (kI (c : Int)) (kOut out) (kB (decide (c ∈ out))) := ⟨_, op_inD hu, fun H x y Q a ⟨kvs, hk, b⟩ q => by
  obtain ⟨p, rfl, e, _⟩ := b
  rw [kI_eq a]
  refine ⟨p, _, rfl, .inl ⟨kvs, Sum.inl (c : Int), e, rfl, rfl⟩, ?_⟩
  have := hk c
  unfold hasK at this
  rw [this]
  exact q _ H (Xt.refl H) kB_of⟩
section
variable {M : Md} {X : Cx} {a b c : Expr} {σ : L2.St} {H : Hp} {pos : Pos} {Ka Kb : Kn}
theorem jt_chain {op op' : CmpOp} {t u : Bool} [Mn M Ka] [Mn M Kb] {Kc : Kn} (o : OpK M (compareOp op) X Ka Kb (kB t)) (o' : t = true → OpK M (compareOp op') X Kb Kc (kB u)) (ho' : t = false → ∃ r, OpR X (compareOp op') r) (ha : JK M X a σ H Ka) (hb : JK M X b σ H Kb) (hc : JK M X c σ H Kc)
    (hm : lastMarks [op, op'] [b, c] = false := by with_unfolding_all rfl) : JT M X (.Compare a [op, op'] [b, c] pos) σ H (t && u) := fun H1 x Q q => by
  obtain ⟨r, hr, ho⟩ := o
  cases t with
  | true =>
    obtain ⟨r', hr', ho'⟩ := o' rfl
    exact wt_of (pt_chain hr hr' pe_we pe_we pe_we hm) (ha H1 x _ fun v H2 y k => hb H2 (x.trans y) _ fun w H3 z k' => ho H3 v w _ (Mn.mono z k) k' fun u4 H4 t4 ku => ⟨true, kB_eq ku, by
      rw [if_pos rfl]
      exact hc H4 (((x.trans y).trans z).trans t4) _ fun w5 H5 z5 k5 => ho' H5 w w5 _ (Mn.mono z5 (Mn.mono t4 k')) k5 fun u6 H6 t6 k6 => ⟨_, kB_eq k6, q H6 ((((y.trans z).trans t4).trans z5).trans t6)⟩⟩)
  | false =>
    obtain ⟨r', hr'⟩ := ho' rfl
    exact wt_of (pt_chain hr hr' pe_we pe_we pe_we hm) (ha H1 x _ fun v H2 y k => hb H2 (x.trans y) _ fun w H3 z k' => ho H3 v w _ (Mn.mono z k) k' fun u4 H4 t4 ku => ⟨false, kB_eq ku, by
      rw [if_neg Bool.false_ne_true]
      exact ⟨_, rfl, q H4 ((y.trans z).trans t4)⟩⟩)
end
section
variable {P : Program} {w : World} {K : PySem.W.Frag} {mg : Str → Option Value} {base : Heap} {f : Addr} {fd : FuncData} {tbs : List Addr} {cT PT : Addr}
def spWv (tbs : List Addr) : Sp := spK tbs (ι := Fab × Nat) (fun i => i.1.Ok) (fun i => [kD i.1.d, kI (i.2 : Int)]) (fun i => kD (dRs (i.1.srch i.2 7 [] [])))
theorem fnWv (F : Fun K "worm_verdict" "worm_verdict" (topS 19) f fd) (hm : mg "worm_verdict" = some (.ref f)) (fS : FnK P w K mg base "search" A18 14 (spSr tbs 7)) : FnK P w K mg base "worm_verdict" A19 15 (spWv tbs) := by
  refine fn_k F hm sc19 (fun _ => rfl) (fun _ _ _ _ _ _ us hl => match us, hl with | [_, _], _ => rfl) fun cdv A outer s H vs Q E i hr hp ht hk hq => ?_
  obtain ⟨F, L⟩ := i
  have ok : F.Ok := hp
  have hq : RetK M0 (kD (dRs (F.srch L 7 [] []))) H Q := hq
  obtain ⟨a, b, rfl, ha, hb⟩ := k2 hk
  have h6 := ok.m6
  exact s_ret (M := M0) (j_def (⟨F, L, [], []⟩ : IoI) fS hr ⟨ok, stt0 F, by show F.m + 1 ≤ 7 + 0; omega⟩ ht (ja_cons (j_var 0 rfl ha) (ja_cons (j_var 1 rfl hb) (ja_cons (K := kD (dPrs [])) j_tup0 (ja_cons (K := kD (dNs [])) j_tup0 ja_nil))))) fun v H1 x k => hq v H1 x k
def spFk (tbs : List Addr) : Sp := spK tbs (ι := Fab × Nat) (fun i => i.1.Ok) (fun i => [kD i.1.d, kI (i.2 : Int)]) (fun i => kD (dKn (i.1.kn i.2)))
theorem fnFk (F : Fun K "find_worm_knot" "find_worm_knot" (topS 26) f fd) (hm : mg "find_worm_knot" = some (.ref f)) (fV : FnK P w K mg base "worm_verdict" A19 15 (spWv tbs)) : FnK P w K mg base "find_worm_knot" A26 16 (spFk tbs) := by
  refine fn_k F hm sc26 (fun _ => rfl) (fun _ _ _ _ _ _ us hl => match us, hl with | [_, _], _ => rfl) fun cdv A outer s H vs Q E i hr hp ht hk hq => ?_
  obtain ⟨F, L⟩ := i
  have ok : F.Ok := hp
  have hq : RetK M0 (kD (dKn (F.kn L))) H Q := hq
  obtain ⟨a, b, rfl, ha, hb⟩ := k2 hk
  refine s_asgG (M := M0) (K := kD (dRs (F.srch L 7 [] []))) (pg_tup rfl (pgs_cons (pg_name (i := 2) sc26.nd rfl (Or.inl rfl)) (pgs_cons (pg_name (i := 3) sc26.nd rfl (Or.inl rfl)) pgs_nil))) (j_def (F, L) fV hr ok ht (ja_cons (j_var 0 rfl ha) (ja_cons (j_var 1 rfl hb) ja_nil))) fun v H1 x1 k1 => ?_
  rw [dRs_eq] at k1
  refine g_pair k1 fun w1 w2 r1 r2 => ?_
  refine s_ret (M := M0) (K := kD (dKn (F.kn L))) (j_if (t := decide (rsW (F.srch L 7 [] []) = "knot")) (jt_cmp ok_eqS (j_var 2 rfl (K := kD (.str _)) r1) j_str) (fun q => ?_) fun q => ?_) fun v H2 x2 k => hq v H2 (x1.trans x2) k
  · unfold Fab.kn
    cases e : F.srch L 7 [] [] with
    | tree t => rw [e] at q; exact absurd (of_decide_eq_true q) (show ¬ (("tree" : Str) = "knot") by decide)
    | knot qk => rw [e] at r2; exact j_var 3 rfl r2
  · unfold Fab.kn
    cases e : F.srch L 7 [] [] with
    | knot qk => rw [e] at q; exact absurd rfl (of_decide_eq_false q)
    | tree t => exact j_non
structure OrI where
  F : Fab
  L : Nat
  chosen : List Pr
  barred : List Nat
  o : List Nat
structure OrI.ok (i : OrI) : Prop where
  F : i.F.Ok
  l1 : (i.barred ++ heldL i.chosen).length ≤ 900
  ord : Ord i.F i.L i.chosen i.barred i.o
def OrI.ks (i : OrI) : List Kn := [kD i.F.d, kI (i.L : Int), kD (dPrs i.chosen), kD (dNs i.barred), kD (dNs i.o)]
def spOr (tbs : List Addr) : Sp := spK tbs OrI.ok OrI.ks (fun _ => kB true)
theorem fnOr (B : Blt mg) (F : Fun K "is_order" "is_order" (topS 20) f fd) (hm : mg "is_order" = some (.ref f)) (fI : FnK P w K mg base "is_idle" A11 5 (spId tbs)) (fH : FnK P w K mg base "held_by" A14 1 spHb) : FnK P w K mg base "is_order" A20 6 (spOr tbs) := by
  refine fn_k F hm sc20 (fun _ => rfl) (fun _ _ _ _ _ _ us hl => match us, hl with | [_, _, _, _, _], _ => rfl) fun cdv A outer s H vs Q E i hr hp ht hk hq => ?_
  obtain ⟨F, L, chosen, barred, o⟩ := i
  have ok : F.Ok := hp.F
  have l1 : (barred ++ heldL chosen).length ≤ 900 := hp.l1
  have l3 : (heldL chosen).length ≤ 900 := by rw [List.length_append] at l1; omega
  have ord : Ord F L chosen barred o := hp.ord
  have hol := ord.len
  have h6 := ok.m6
  have hq : RetK M0 (kB true) H Q := hq
  obtain ⟨a, b, c, e, g, rfl, ha, hb, hc, he, hg⟩ := k5 hk
  have ha : kD F.d H a := ha
  have hb : kI (L : Int) H b := hb
  have hc : kD (dPrs chosen) H c := hc
  have he : kD (dNs barred) H e := he
  have hg : kD (dNs o) H g := hg
  have hu := hu_of hr
  refine s_asg (M := M0) 5 sc20.nd (j_def chosen fH (hr.mono (by decide : 1 ≤ 5)) (by show (heldL chosen).length ≤ 1000; omega) no_tabs (ja_cons (j_var 2 rfl hc) ja_nil)) fun v5 H1 x1 k5 => ?_
  have k5 : kOut (heldL chosen) H1 v5 := k5
  refine s_when (M := M0) (t := false) (JT.is (jt_not (jt_val (j_isi (d := dNs o) (t := true) B (j_var 4 rfl (Mn.mono x1 hg)) rfl B.tuple bt_tuple))) rfl) (fun q => absurd q Bool.false_ne_true) fun _ H2 x2 => ?_
  have x02 := x1.trans x2
  refine s_for (M := M0) (pg_name (i := 6) sc20.nd rfl (Or.inl rfl)) (ji_rng (n := o.length) rfl B.range (j_lenNs B (j_var 4 rfl (Mn.mono x02 hg))) (by omega)) rfl fun H3 x3 => ?_
  have x03 := x02.trans x3
  refine ⟨fun j σ' H' => ∃ o6 o7, σ' = [some a, some b, some c, some e, some g, some v5, o6, o7] ∧ Xt M0 H3 H', ⟨none, none, rfl, Xt.refl _⟩, fun j σ' H' ⟨_, _, _, x⟩ => x.tm, ?_, ?_⟩
  · rintro j dd v6 σ' H4 hj rv ⟨o6, o7, rfl, x4⟩
    have hj' : j < o.length := by
      have := (List.getElem?_eq_some_iff.mp hj).1
      rw [rangeD_len] at this; exact this
    rw [rangeD_at hj'] at hj
    cases hj
    have x04 := x03.trans x4
    have k54 : kOut (heldL chosen) H4 v5 := Mn.mono ((x2.trans x3).trans x4) k5
    have hoj : o[j]? = some (o.getD j 0) := getD_get hj' 0
    have hlt := ord.lt _ (List.mem_of_getElem? hoj)
    obtain ⟨q1, q2, q3⟩ := ord.ok j _ hoj
    generalize hcj : o.getD j 0 = cj at *
    show WSs _ _ _ _ _
    refine s_asg (M := M0) 7 sc20.nd (K := kI (cj : Int)) (j_item (by rw [← hcj]; exact at_Ns hj') (j_var 4 rfl (Mn.mono x04 hg)) (j_var 6 rfl (K := kI (j : Int)) rv)) fun v7 H5 x5 k7 => ?_
    have x05 := x04.trans x5
    refine s_when (M := M0) (t := false) (JT.is (jw_jt (jw_or (t := !true) (jt_not (jt_val (j_isi (d := dI cj) (t := true) B (j_var 7 rfl k7) rfl B.int bt_int))) fun _ => jw_or (t := false) (jt_val (j_isi (d := dI cj) (t := false) B (j_var 7 rfl k7) rfl B.bool bt_bool)) fun _ => jw_or1 (jt_not (jt_chain ok_le (fun _ => ok_lt) (fun _ => ⟨_, op_lt⟩) j_int (j_var 7 rfl k7) (j_lenCh B (j_n1 (j_f0 (j_var 0 rfl (Mn.mono x05 ha))))))))) ?_) (fun q => absurd q Bool.false_ne_true) fun _ H6 x6 => ?_
    · rw [decide_eq_true (by omega), decide_eq_true (by omega)]
      rfl
    have x06 := x05.trans x6
    have k76 : kI (cj : Int) H6 v7 := Mn.mono (M := M0) x6 k7
    have hcl : (barred ++ o.take j ++ heldL chosen).length ≤ 1000 := by
      rw [List.length_append] at l1
      rw [List.length_append, List.length_append, List.length_take]
      omega
    have eb : dNs (barred ++ o.take j) = .tuple (barred.map dI ++ (o.map dI).take j) := by unfold dNs; rw [List.map_append, List.map_take]
    refine s_when (M := M0) (t := false) (JT.is (jw_jt (jw_or (jt_cmp (ok_inO hu) (j_var 7 rfl k76) (j_var 5 rfl (Mn.mono (x5.trans x6) k54))) fun _ => jw_or (jt_cmp ok_inN (j_var 7 rfl k76) (j_var 3 rfl (Mn.mono x06 he))) fun _ => jw_or1 (jt_not (jt_val (j_def (⟨F, L, chosen, barred ++ o.take j, cj⟩ : CdI) fI hr ⟨ok, hlt, hcl⟩ (tabs_up x06 ht) (ja_cons (j_var 0 rfl (Mn.mono x06 ha)) (ja_cons (j_var 1 rfl (Mn.mono x06 hb)) (ja_cons (j_var 2 rfl (Mn.mono x06 hc)) (ja_cons (K := kD (dNs (barred ++ o.take j))) (by
      rw [eb]
      exact j_op (ok_cat (by rw [List.length_map, List.length_take, List.length_map]; rw [List.length_append] at l1; omega)) (j_var 3 rfl (Mn.mono x06 he)) (j_cutTo (j_var 4 rfl (Mn.mono x06 hg)) (j_var 6 rfl (Mn.mono (M := M0) (K := kI (j : Int)) (x5.trans x6) rv)))) (ja_cons (j_var 7 rfl k76) ja_nil)))))))))) ?_) (fun q => absurd q Bool.false_ne_true) fun _ H7 x7 => ?_
    · have q2' : cj ∉ barred := fun z => q2 (List.mem_append_left _ z)
      rw [decide_eq_false q1, decide_eq_false q2', decide_eq_true q3]
      rfl
    exact s_nil ⟨some v6, some v7, rfl, ((x4.trans x5).trans x6).trans x7⟩
  · rintro σ' H4 ⟨o6, o7, rfl, x4⟩
    exact s_ret (M := M0) j_bl fun v H5 x5 k => hq v H5 ((x03.trans x4).trans x5) k
end
end K68

set_option Elab.async false
set_option linter.all false
set_option maxRecDepth 100000
set_option maxHeartbeats 1000000
/-! K68, text B14: is_search_tree. -/
namespace K68
open PySem PySem.Spec L2
open PyProof.Rows hiding St
theorem g_four {σ : L2.St} {H : Hp} {K : PySem.W.Frag} {i j l m : Nat} {v : V} {d1 d2 d3 d4 : PyData} {Q : L2.St → Hp → Prop} (h : Rp H v (.tuple [d1, d2, d3, d4])) (q : ∀ v1 v2 v3 v4, Rp H v1 d1 → Rp H v2 d2 → Rp H v3 d3 → Rp H v4 d4 → Q ((((σ.set i (some v1)).set j (some v2)).set l (some v3)).set m (some v4)) H) :
    gTup K 4 (gCons (gName i) (gCons (gName j) (gCons (gName l) (gCons (gName m) gNil)))) v σ H Q := by
  obtain ⟨p, xs, rfl, ex, r⟩ := rp_tup h
  cases r with
  | cons r1 r =>
    cases r with
    | cons r2 r =>
      cases r with
      | cons r3 r =>
        cases r with
        | cons r4 r =>
          cases r
          exact ⟨p, _, rfl, SqT.of ex, rfl, _, _, rfl, _, _, rfl, _, _, rfl, _, _, rfl, rfl, q _ _ _ _ r1 r2 r3 r4⟩
section
variable {P : Program} {w : World} {K : PySem.W.Frag} {mg : Str → Option Value} {base : Heap} {f : Addr} {fd : FuncData} {tbs : List Addr} {cT PT : Addr}
structure StOk (k : Nat) (i : IoI × Tr) : Prop where
  sr : SrOk k i.1
  eq : i.1.F.srch i.1.L k i.1.chosen i.1.barred = .tree i.2
def stKs (i : IoI × Tr) : List Kn := [kD i.1.F.d, kI (i.1.L : Int), kD (dPrs i.1.chosen), kD (dNs i.1.barred), kD (dTr i.2)]
def spSt (tbs : List Addr) (k : Nat) : Sp := spK tbs (StOk k) stKs (fun _ => kB true)
theorem fnSt0 (F : Fun K "is_search_tree" "is_search_tree" (topS 21) f fd) (hm : mg "is_search_tree" = some (.ref f)) : FnK P w K mg base "is_search_tree" A21 7 (spSt tbs 0) := by
  refine fn_k F hm sc21 (fun _ => rfl) (fun _ _ _ _ _ _ us hl => match us, hl with | [_, _, _, _, _], _ => rfl) fun cdv A outer s H vs Q E i hr hp ht hk hq => ?_
  have h1 := hp.sr.fuel
  have h2 := hp.sr.st.len
  omega
theorem fnSt1 {k : Nat} (B : Blt mg) (F : Fun K "is_search_tree" "is_search_tree" (topS 21) f fd) (hm : mg "is_search_tree" = some (.ref f)) (fS : FnK P w K mg base "is_search_tree" A21 (7 + k) (spSt tbs k)) (fR : FnK P w K mg base "is_order" A20 6 (spOr tbs)) (fC : FnK P w K mg base "is_closed" A16 3 (spIc tbs)) (fO : FnK P w K mg base "open_channels" A17 3 spOc)
    (fD : FnK P w K mg base "candidates" A10 4 (spCd tbs)) : FnK P w K mg base "is_search_tree" A21 (7 + k + 1) (spSt tbs (k + 1)) := by
  refine fn_k F hm sc21 (fun _ => rfl) (fun _ _ _ _ _ _ us hl => match us, hl with | [_, _, _, _, _], _ => rfl) fun cdv A outer s H vs Q E i hr hp ht hk hq => ?_
  obtain ⟨⟨F, L, chosen, barred⟩, t⟩ := i
  have ok : F.Ok := hp.sr.F
  have st : Stt F chosen barred := hp.sr.st
  have fuel : F.m + 1 ≤ (k + 1) + (heldL chosen ++ barred).length := hp.sr.fuel
  have heq : F.srch L (k + 1) chosen barred = .tree t := hp.eq
  have hq : RetK M0 (kB true) H Q := hq
  obtain ⟨a, b, c, e, g, rfl, ha, hb, hc, he, hg⟩ := k5 hk
  have ha : kD F.d H a := ha
  have hb : kI (L : Int) H b := hb
  have hc : kD (dPrs chosen) H c := hc
  have he : kD (dNs barred) H e := he
  have hg : kD (dTr t) H g := hg
  have hr7 : Room 6 (DX P w K mg base N21 "is_search_tree" (topS 21) f cdv A outer s H E).A := hr.mono (by omega)
  have hun := hr.un
  have h6 := ok.m6
  have hlen := st.len
  have hlc := held_ge st.pr
  rw [List.length_append] at hlen
  have l1 : (barred ++ heldL chosen).length ≤ 900 := by rw [List.length_append]; omega
  have ord := Ord.idle (F := F) (L := L) (chosen := chosen) (barred := barred)
  have hio := ord.len
  obtain ⟨b2, hb2⟩ : ∃ b2, b2 = barred ++ F.idle L chosen barred := ⟨_, rfl⟩
  have st2 : Stt F chosen b2 := by rw [hb2]; exact st.order
  have hlen2 := st2.len
  have hge : (heldL chosen ++ barred).length ≤ (heldL chosen ++ b2).length := by rw [hb2, List.length_append, List.length_append, List.length_append]; omega
  have lb2 : b2.length ≤ 12 := by rw [hb2, List.length_append]; omega
  have icok : IcI.ok ⟨F, chosen, b2⟩ := ⟨ok, st.pr, by show chosen.length ≤ 1000; omega, by show b2.length ≤ 1000; omega, by show (heldL chosen).length ≤ 1000; omega⟩
  have ed : dNs b2 = .tuple (barred.map dI ++ (F.idle L chosen barred).map dI) := by rw [hb2]; unfold dNs; rw [List.map_append]
  -- the two forms
  have form : (F.isC chosen b2 = true ∧ t = .cl (F.idle L chosen barred)) ∨ (∃ ch ts us, F.isC chosen b2 = false ∧ F.opC chosen b2 ≠ [] ∧ ch = F.pick L chosen b2 (F.opC chosen b2) ∧ F.loop L k chosen b2 ch = .ok ts ∧ t = .sp (F.idle L chosen barred) ch us ∧
      ((chosen.length = 0 ∧ ∃ t2, F.srch L k chosen (b2 ++ [ch]) = .tree t2 ∧ us = ts ++ [t2]) ∨ (chosen.length ≠ 0 ∧ us = ts))) := by
    cases hC : F.isC chosen b2 with
    | true =>
      rw [srch_cl hb2 hC] at heq
      cases heq
      exact .inl ⟨rfl, rfl⟩
    | false =>
      right
      by_cases hl : F.opC chosen b2 = []
      · rw [srch_kn hb2 hC hl] at heq; cases heq
      · cases hlp : F.loop L k chosen b2 (F.pick L chosen b2 (F.opC chosen b2)) with
        | error q => rw [srch_er hb2 hC hl rfl hlp] at heq; cases heq
        | ok ts =>
          rw [srch_ok hb2 hC hl rfl hlp] at heq
          by_cases h0 : chosen.length = 0
          · rw [if_pos h0] at heq
            cases h2 : F.srch L k chosen (b2 ++ [F.pick L chosen b2 (F.opC chosen b2)]) with
            | knot q => rw [h2] at heq; cases heq
            | tree t2 =>
              rw [h2] at heq
              cases heq
              exact ⟨_, ts, _, rfl, hl, rfl, hlp, rfl, .inl ⟨h0, t2, h2, rfl⟩⟩
          · rw [if_neg h0] at heq
            cases heq
            exact ⟨_, ts, _, rfl, hl, rfl, hlp, rfl, .inr ⟨h0, rfl⟩⟩
  -- what both forms begin with
  have both : ∃ d0 rest, dTr t = .tuple (d0 :: dNs (F.idle L chosen barred) :: rest) ∧ ((rest = [] ∧ d0 = .str "closed") ∨ (rest.length = 2 ∧ d0 = .str "split")) := by
    rcases form with ⟨_, rfl⟩ | ⟨ch, ts, us, _, _, _, _, rfl, _⟩
    · exact ⟨.str "closed", [], by simp [dTr], .inl ⟨rfl, rfl⟩⟩
    · exact ⟨.str "split", [dI ch, .tuple (dTrs us)], by simp [dTr], .inr ⟨rfl, rfl⟩⟩
  obtain ⟨d0, drest, hdt, hrest⟩ := both
  rw [hdt] at hg
  have hl24 : ((d0 :: dNs (F.idle L chosen barred) :: drest).length : Int) = 2 ∨ ((d0 :: dNs (F.idle L chosen barred) :: drest).length : Int) = 4 := by
    rcases hrest with ⟨rfl, _⟩ | ⟨h, _⟩
    · exact .inl rfl
    · right
      rw [List.length_cons, List.length_cons, h]
      rfl
  have item1 : ∀ {H1 : Hp} {p1 p2 pos : Pos} {kk : Nat} {σ : L2.St}, σ[4]? = some (some g) → kD (.tuple (d0 :: dNs (F.idle L chosen barred) :: drest)) H1 g → JK M0 (DX P w K mg base N21 "is_search_tree" (topS 21) f cdv A outer s H E) (.Subscript (.Name "value" p1) (.Constant (.int 1) kk p2) pos) σ H1 (kD (dNs (F.idle L chosen barred))) := fun h1 h2 => j_item (i := 1) (atI_nat (j := 1) rfl) (j_var 4 h1 h2) j_int
  refine s_when (M := M0) (t := false) (JT.is (jw_jt (jw_or (t := !true) (jt_not (jt_val (j_isi (t := true) B (j_var 4 rfl hg) rfl B.tuple bt_tuple))) fun _ => jw_or (jt_cmp (ok_notInT (cs := [2, 4])) (j_lenT B (j_var 4 rfl hg)) (j_tup2 j_int j_int)) fun _ => jw_or1 (jt_not (jt_val (j_def (⟨F, L, chosen, barred, F.idle L chosen barred⟩ : OrI) fR hr7 ⟨ok, l1, ord⟩ ht
    (ja_cons (j_var 0 rfl ha) (ja_cons (j_var 1 rfl hb) (ja_cons (j_var 2 rfl hc) (ja_cons (j_var 3 rfl he) (ja_cons (item1 rfl hg) ja_nil)))))))))) ?_) (fun q => absurd q Bool.false_ne_true) fun _ H1 x1 => ?_
  · have : decide (((d0 :: dNs (F.idle L chosen barred) :: drest).length : Int) ∈ ([2, 4] : List Int)) = true := by
      refine decide_eq_true ?_
      rcases hl24 with h | h
      · rw [h]; decide
      · rw [h]; decide
    rw [this]
    rfl
  have hg1 := Mn.mono (M := M0) x1 hg
  refine s_asg (M := M0) 3 sc21.nd (K := kD (dNs b2)) (by rw [ed]; exact j_op (ok_cat (by rw [List.length_map, List.length_map]; omega)) (j_var 3 rfl (Mn.mono x1 he)) (item1 rfl hg1)) fun v3 H2 x2 k3 => ?_
  have x02 := x1.trans x2
  have hg2 := Mn.mono (M := M0) x2 hg1
  rcases form with ⟨hC, rfl⟩ | ⟨ch, ts, us, hC, hl, hch, hlp, rfl, hus⟩
  · have hdr : drest = [] ∧ d0 = .str "closed" := by
      have : dTr (.cl (F.idle L chosen barred)) = .tuple [.str "closed", dNs (F.idle L chosen barred)] := by simp [dTr]
      rw [this] at hdt
      injection hdt with hdt
      injection hdt with h1 h2
      injection h2 with h3 h4
      exact ⟨h4.symm, h1.symm⟩
    obtain ⟨rfl, rfl⟩ := hdr
    refine s_when (M := M0) (t := true) (JT.is (jt_cmp ok_eqI (j_lenT B (j_var 4 rfl hg2)) j_int) rfl) (fun _ H3 x3 => ?_) fun q => absurd q.symm Bool.false_ne_true
    refine s_ret (M := M0) (K := kB (true && F.isC chosen b2)) (j_and (JK.is (j_cmp ok_eqS (j_item (i := 0) rfl (j_var 4 rfl (Mn.mono (M := M0) x3 hg2)) j_int) j_str) (by rw [decide_eq_true rfl])) fun _ => j_one (j_def (⟨F, chosen, b2⟩ : IcI) fC (hr7.mono (by decide)) icok (tabs_up (x02.trans x3) ht) (ja_cons (j_var 0 rfl (Mn.mono (x02.trans x3) ha)) (ja_cons (j_var 2 rfl (Mn.mono (x02.trans x3) hc)) (ja_cons (j_var 3 rfl (Mn.mono x3 k3)) ja_nil))))) fun v H4 x4 k => hq v H4 ((x02.trans x3).trans x4) (by rw [hC] at k; exact k)
  · have hdr : d0 = .str "split" ∧ drest = [dI ch, .tuple (dTrs us)] := by
      have : dTr (.sp (F.idle L chosen barred) ch us) = .tuple [.str "split", dNs (F.idle L chosen barred), dI ch, .tuple (dTrs us)] := by simp [dTr]
      rw [this] at hdt
      injection hdt with hdt
      injection hdt with h1 h2
      injection h2 with h3 h4
      exact ⟨h1.symm, h4.symm⟩
    obtain ⟨rfl, rfl⟩ := hdr
    refine s_when (M := M0) (t := false) (JT.is (jt_cmp ok_eqI (j_lenT B (j_var 4 rfl hg2)) j_int) rfl) (fun q => absurd q Bool.false_ne_true) fun _ H3 x3 => ?_
    have x03 := x02.trans x3
    have hin : ch ∈ F.opC chosen b2 := hch ▸ pick_mem hl
    have hcm := opC_mem ok hin
    refine s_asgG (M := M0) (pg_tup rfl (pgs_cons (pg_name (i := 5) sc21.nd rfl (Or.inl rfl)) (pgs_cons (pg_name (i := 6) sc21.nd rfl (Or.inl rfl)) (pgs_cons (pg_name (i := 7) sc21.nd rfl (Or.inl rfl)) (pgs_cons (pg_name (i := 8) sc21.nd rfl (Or.inl rfl)) pgs_nil))))) (j_var 4 rfl (Mn.mono (M := M0) x3 hg2)) fun v H4 x4 k4 => g_four k4 fun w1 w2 w3 w4 r1 r2 r3 r4 => ?_
    have x04 := x03.trans x4
    have k34 := Mn.mono (M := M0) (x3.trans x4) k3
    refine s_when (M := M0) (t := false) (JT.is (jw_jt (jw_or (jt_cmp ok_neS (j_var 5 rfl (K := kD (.str "split")) r1) j_str) fun _ => jw_or (t := false) (jt_val (j_isi (d := dI ch) (t := false) B (j_var 7 rfl (K := kI (ch : Int)) r3) rfl B.bool bt_bool)) fun _ => jw_or1 (jt_cmp ok_notInLN (j_var 7 rfl (K := kI (ch : Int)) r3) (JL.k (j_defL (⟨F, chosen, b2⟩ : IcI) fO (hr7.mono (by decide)) icok no_tabs (ja_cons (j_var 0 rfl (Mn.mono x04 ha)) (ja_cons (j_var 2 rfl (Mn.mono x04 hc)) (ja_cons (j_var 3 rfl k34) ja_nil)))))))) ?_) (fun q => absurd q Bool.false_ne_true) fun _ H5 x5 => ?_
    · rw [decide_eq_true rfl, decide_eq_true hin]
      rfl
    have x05 := x04.trans x5
    have cdok : CdI.ok ⟨F, L, chosen, b2, ch⟩ := ⟨ok, hcm.1, by show (b2 ++ heldL chosen).length ≤ 1000; rw [List.length_append]; omega⟩
    refine s_asg (M := M0) 9 sc21.nd (JL.k (j_defL (⟨F, L, chosen, b2, ch⟩ : CdI) fD (hr7.mono (by decide)) cdok (tabs_up x05 ht) (ja_cons (j_var 0 rfl (Mn.mono x05 ha)) (ja_cons (j_var 1 rfl (Mn.mono x05 hb)) (ja_cons (j_var 2 rfl (Mn.mono x05 hc)) (ja_cons (j_var 3 rfl (Mn.mono x5 k34)) (ja_cons (j_var 7 rfl (Mn.mono (M := M0) (K := kI (ch : Int)) x5 r3)) ja_nil))))))) fun v9 H6 x6 k9 => ?_
    have x06 := x05.trans x6
    refine s_asg (M := M0) 10 sc21.nd (K := kI (if chosen.length = 0 then 1 else 0)) (j_if (t := decide (chosen.length = 0)) (JT.is (jt_cmp ok_eqI (j_lenPr B (j_var 2 rfl (Mn.mono x06 hc))) j_int) (decN (b := 0))) (fun q => by rw [if_pos (of_decide_eq_true q)]; exact j_int) fun q => by rw [if_neg (of_decide_eq_false q)]; exact j_int) fun v10 H7 x7 k10 => ?_
    have x07 := x06.trans x7
    obtain ⟨vs, e1, e2, e3⟩ := loop_ok hlp
    rw [List.nil_append] at e1
    subst e1
    have k97 := Mn.mono (M := M0) x7 k9
    have k47 : kD (.tuple (dTrs us)) H7 w4 := Mn.mono (M := M0) ((x5.trans x6).trans x7) r4
    have hul : (((dTrs us).length : Nat) : Int) = (((F.cand L chosen b2 ch).map dPr).length : Int) + (if chosen.length = 0 then 1 else 0) := by
      rw [dTrs_map, List.length_map, List.length_map]
      rcases hus with ⟨h0, t2, _, rfl⟩ | ⟨h0, rfl⟩
      · rw [if_pos h0, List.length_append, e2]; rfl
      · rw [if_neg h0, e2]; omega
    refine s_when (M := M0) (t := false) (JT.is (jt_or (t := !true) (jt_not (jt_val (j_isi (d := .tuple (dTrs us)) (t := true) B (j_var 8 rfl k47) rfl B.tuple bt_tuple))) fun _ => jt_cmp ok_neI (j_lenT B (j_var 8 rfl k47)) (j_op ok_add (j_lenL B (j_var 9 rfl k97)) (j_var 10 rfl k10))) (by rw [decide_eq_true hul]; rfl)) (fun q => absurd q Bool.false_ne_true) fun _ H8 x8 => ?_
    have x08 := x07.trans x8
    have hcl := cand_len (L := L) (chosen := chosen) (barred := b2) ok hcm.1
    have hget : ∀ j p, (F.cand L chosen b2 ch)[j]? = some p → ∃ t', us[j]? = some t' ∧ F.srch L k (chosen ++ [p]) b2 = .tree t' := fun j p hj => by
      obtain ⟨t', h1, h2⟩ := e3 j p hj
      refine ⟨t', ?_, h2⟩
      rcases hus with ⟨_, t2, _, rfl⟩ | ⟨_, rfl⟩
      · rw [List.getElem?_append_left (List.getElem?_eq_some_iff.mp h1).1]; exact h1
      · exact h1
    refine s_for (M := M0) (pg_name (i := 11) sc21.nd rfl (Or.inl rfl)) (ji_rng (n := (F.cand L chosen b2 ch).length) rfl B.range (JK.is (j_lenL B (j_var 9 rfl (Mn.mono (M := M0) x8 k97))) (by rw [List.length_map])) (by omega)) rfl fun H9 x9 => ?_
    have x09 := x08.trans x9
    have up9 : Xt M0 H7 H9 := x8.trans x9
    refine ⟨fun j σ' H' => ∃ o11, σ' = [some a, some b, some c, some v3, some g, some w1, some w2, some w3, some w4, some v9, some v10, o11] ∧ Xt M0 H9 H', ⟨none, rfl, Xt.refl _⟩, fun j σ' H' ⟨_, _, x⟩ => x.tm, ?_, ?_⟩
    · rintro j dd v11 σ' H10 hj rv ⟨o11, rfl, x10⟩
      have hj' : j < (F.cand L chosen b2 ch).length := by
        have := (List.getElem?_eq_some_iff.mp hj).1
        rw [rangeD_len] at this; exact this
      rw [rangeD_at hj'] at hj
      cases hj
      have x010 := x09.trans x10
      have hp1 : (F.cand L chosen b2 ch)[j]? = some (F.cand L chosen b2 ch)[j] := by simp [hj']
      generalize (F.cand L chosen b2 ch)[j] = pj at hp1
      have hmem := List.mem_of_getElem? hp1
      obtain ⟨stp, hgt⟩ := st2.pair ok hcm.1 hmem
      obtain ⟨tj, ht1, ht2⟩ := hget j pj hp1
      have epr : dPrs (chosen ++ [pj]) = .tuple (chosen.map dPr ++ [dPr pj]) := by unfold dPrs; rw [List.map_append]; rfl
      show WSs _ _ _ _ _
      refine s_when (M := M0) (t := false) (JT.is (jt_not (jt_val (j_def ((⟨F, L, chosen ++ [pj], b2⟩ : IoI), tj) fS hr ⟨⟨ok, stp, by show F.m + 1 ≤ k + (heldL (chosen ++ [pj]) ++ b2).length; omega⟩, ht2⟩ (tabs_up x010 ht) (ja_cons (j_var 0 rfl (Mn.mono x010 ha)) (ja_cons (j_var 1 rfl (Mn.mono x010 hb)) (ja_cons (K := kD (dPrs (chosen ++ [pj]))) (by
        rw [epr]
        exact j_op (ok_cat (by rw [List.length_map]; show chosen.length + 1 ≤ 1000000; omega)) (j_var 2 rfl (Mn.mono x010 hc)) (j_tup1 (j_litem (i := (j : Int)) (atI_map hp1) (j_var 9 rfl (Mn.mono (M := M0) (up9.trans x10) k97)) (j_var 11 rfl (K := kI (j : Int)) rv)))) (ja_cons (j_var 3 rfl (Mn.mono (M := M0) ((((x5.trans x6).trans x7).trans up9).trans x10) k34)) (ja_cons (K := kD (dTr tj)) (j_item (i := (j : Int)) (by rw [dTrs_map]; exact atI_map ht1) (j_var 8 rfl (Mn.mono (M := M0) (up9.trans x10) k47)) (j_var 11 rfl (K := kI (j : Int)) rv)) ja_nil)))))))) rfl) (fun q => absurd q Bool.false_ne_true) fun _ H11 x11 => ?_
      exact s_nil ⟨some v11, rfl, x10.trans x11⟩
    · rintro σ' H10 ⟨o11, rfl, x10⟩
      have x010 := x09.trans x10
      refine s_ret (M := M0) (K := kB true) ?_ fun v H11 x11 k => hq v H11 (x010.trans x11) k
      rcases hus with ⟨h0, t2, ht2, rfl⟩ | ⟨h0, rfl⟩
      · have k10' : kI (1 : Int) H10 v10 := by rw [if_pos h0] at k10; exact Mn.mono (M := M0) (up9.trans x10) k10
        have stb := st2.bar hcm.1 hcm.2.1 hcm.2.2
        have ebr : dNs (b2 ++ [ch]) = .tuple (b2.map dI ++ [dI ch]) := by unfold dNs; rw [List.map_append]; rfl
        have elast : atI (dTrs (ts ++ [t2])) (-1) = some (dTr t2) := atI_end (by rw [dTrs_map, List.map_append]; show (ts.map dTr ++ [dTr t2]).getLast? = _; rw [List.getLast?_concat])
        exact j_or (t := false) (u := true) (JK.is (j_cmp ok_eqI (j_var 10 rfl k10') j_int) rfl) fun _ => j_one (j_def ((⟨F, L, chosen, b2 ++ [ch]⟩ : IoI), t2) fS hr ⟨⟨ok, stb, by show F.m + 1 ≤ k + (heldL chosen ++ (b2 ++ [ch])).length; rw [← List.append_assoc, List.length_append]; show F.m + 1 ≤ k + ((heldL chosen ++ b2).length + 1); omega⟩, ht2⟩ (tabs_up x010 ht) (ja_cons (j_var 0 rfl (Mn.mono x010 ha)) (ja_cons (j_var 1 rfl (Mn.mono x010 hb)) (ja_cons (j_var 2 rfl (Mn.mono x010 hc)) (ja_cons (K := kD (dNs (b2 ++ [ch]))) (by
          rw [ebr]
          exact j_op (ok_cat (by rw [List.length_map]; show b2.length + 1 ≤ 1000000; omega)) (j_var 3 rfl (Mn.mono (M := M0) ((((x5.trans x6).trans x7).trans up9).trans x10) k34)) (j_tup1 (j_var 7 rfl (Mn.mono (M := M0) (K := kI (ch : Int)) ((((x5.trans x6).trans x7).trans up9).trans x10) r3)))) (ja_cons (K := kD (dTr t2)) (j_item (i := -1) elast (j_var 8 rfl (Mn.mono (M := M0) (up9.trans x10) k47)) (j_neg j_int)) ja_nil))))))
      · have k10' : kI (0 : Int) H10 v10 := by rw [if_neg h0] at k10; exact Mn.mono (M := M0) (up9.trans x10) k10
        exact j_or (t := true) (u := true) (JK.is (j_cmp ok_eqI (j_var 10 rfl k10') j_int) rfl) fun q => absurd q.symm Bool.false_ne_true
end
end K68

set_option Elab.async false
set_option linter.all false
set_option maxRecDepth 100000
set_option maxHeartbeats 1000000
/-! K68, text C1: list comprehensions of two clauses; max; is True. -/
namespace K68
open PySem PySem.Spec L2
open PyProof.Rows hiding St
section
variable {M : Md} {X : Cx} {σ : L2.St} {H : Hp} {scope : Scope} {β : Type} {tg it tg1 it1 elt : Expr} {g : TG} {vs : List Nat} {j1 : Nat}
theorem lc2_read {bs : List β} {enc : β → PyData} {cs : β → List Int} {Gd : β → L2.St → Hp → Prop} (h : JIx M X tg it σ H (bs.map enc)) (hl : (bs.flatMap cs).length ≤ 1000000) (hgt : TgOk M H σ g vs bs enc Gd) (him : M.i H)
    (hgm : ∀ H1 H2 b σ2, Tm H1 H2 → Gd b σ2 H1 → Gd b σ2 H2) (hw1 : ∀ σ2 (v : V), wipe ((wipe σ2 [j1]).set j1 (some v)) [j1] = wipe σ2 [j1])
    (hi : ∀ H1 b σ2, Xt M H H1 → b ∈ bs → Gd b σ2 H1 → JBI M X scope tg1 it1 σ2 H1 ((cs b).map .int))
    (he : ∀ H1 b σ2 c, Xt M H H1 → b ∈ bs → Gd b σ2 H1 → c ∈ cs b → JBK M X scope elt ((wipe σ2 [j1]).set j1 (some (.int c))) H1 (kI c)) :
    ∀ H0, Xt M H H0 → ∀ Q : VK, (∀ p xs H2, H0 p = none → Xt M H0 H2 → H2 p = some (.lst xs) → RpL H2 xs ((bs.flatMap cs).map .int) → Q (.ref p) H2) → tLc2 (WI X tg it) g (BTs X scope []) (BI X scope tg1 it1) (gName j1) (BTs X scope []) (BE X scope elt) vs [j1] σ H0 Q := by
  intro H0 x Q q
  refine h H0 x _ fun J Kp H1 y ok k0 => ?_
  intro Dl hD
  have hm0 : ¬ M.m Dl := M.new ((x.trans y).inv him) hD
  have hlen : (bs.map enc).length = bs.length := List.length_map _
  refine ⟨fun i m H' => m = bs.length - i ∧ i ≤ bs.length ∧ Xt M H1 H' ∧ H' Dl = some (.lst (((bs.take i).flatMap cs).map V.int)), ⟨bs.length, by simp, Nat.zero_le _, Xt.new hD, upd_same⟩, ?_⟩
  rintro i m H' ⟨rfl, hi', z, ed⟩
  have kp := ok.up _ _ z k0
  by_cases hlt : i < bs.length
  · refine .inr ⟨ok.goes i H' kp (by rw [hlen]; exact hlt), fun H2 => Xt M H1 H2 ∧ H2 Dl = some (.lst (((bs.take (i + 1)).flatMap cs).map V.int)), fun H2 p' => ⟨bs.length - (i + 1), by omega, rfl, hlt, p'⟩, fun v H2 yy => ?_⟩
    obtain ⟨rfl, d, hd, r⟩ := ok.yld i H' v H2 kp (by rw [hlen]; exact hlt) yy
    have hb : bs[i]? = some bs[i] := by simp [hlt]
    rw [List.getElem?_map, hb] at hd
    have hd : enc bs[i] = d := Option.some.inj hd
    subst hd
    have hm : bs[i] ∈ bs := List.getElem_mem hlt
    have e := flat_step (f := cs) hb
    refine hgt H2 bs[i] v _ ((x.trans y).trans z) hm r fun σ2 hw gd => ⟨hw, ?_⟩
    intro s0 H0' C cl fp
    refine jts_nil (M := M) H2 (Xt.refl H2) _ fun H3 t3 => ?_
    rw [if_pos rfl]
    intro s0 H0' C cl fp
    have z3 := z.trans t3
    have ed3 := t3.keep _ _ ed (nt_lst _) hm0
    refine hi H3 bs[i] σ2 ((x.trans y).trans z3) hm (hgm _ _ _ _ t3.tm gd) s0 H0' C cl fp H3 (Xt.refl H3) _ fun J1 Kp1 H4 t ok1 k1 stb => ?_
    generalize hB : bs[i] = B at *
    have hlen1 : ((cs B).map PyData.int).length = (cs B).length := List.length_map _
    refine ⟨fun j k H5 => k = (cs B).length - j ∧ j ≤ (cs B).length ∧ Xt M H1 H5 ∧ Tm H4 H5 ∧ H5 Dl = some (.lst (((bs.take i).flatMap cs ++ (cs B).take j).map V.int)), ⟨(cs B).length, by simp, Nat.zero_le _, z3.trans t, Tm.refl _, by rw [List.take_zero, List.append_nil]; exact t.keep _ _ ed3 (nt_lst _) hm0⟩, ?_⟩
    rintro j k H5 ⟨rfl, hj, z5, t5, ed5⟩
    have kp1 := stb _ _ t5 k1
    by_cases hlt1 : j < (cs B).length
    · refine .inr ⟨ok1.goes j H5 kp1 (by rw [hlen1]; exact hlt1), fun H6 => Xt M H1 H6 ∧ Tm H4 H6 ∧ H6 Dl = some (.lst (((bs.take i).flatMap cs ++ (cs B).take (j + 1)).map V.int)), fun H6 p' => ⟨(cs B).length - (j + 1), by omega, rfl, hlt1, p'⟩, fun v1 H6 yy1 => ?_⟩
      obtain ⟨rfl, d1, hd1, r1⟩ := ok1.yld j H5 v1 H6 kp1 (by rw [hlen1]; exact hlt1) yy1
      have hb1 : (cs B)[j]? = some (cs B)[j] := by simp [hlt1]
      rw [List.getElem?_map, hb1] at hd1
      have hd1 : PyData.int (cs B)[j] = d1 := Option.some.inj hd1
      subst hd1
      have hm1 : (cs B)[j] ∈ cs B := List.getElem_mem hlt1
      have ev : v1 = .int (cs B)[j] := kI_eq r1
      refine ⟨hw1 σ2 v1, ?_⟩
      rw [ev]
      intro s0 H0' C cl fp
      refine jts_nil (M := M) H6 (Xt.refl H6) _ fun H7 t7 => ?_
      rw [if_pos rfl]
      intro s0 H0' C cl fp
      have z7 := z5.trans t7
      refine he H7 B _ _ ((x.trans y).trans z7) hm (hgm _ _ _ _ (t3.tm.trans (t.tm.trans (t5.trans t7.tm))) gd) hm1 s0 H0' C cl fp H7 (Xt.refl H7) _ fun w H8 t8 kw => ?_
      have ed8 := t8.keep _ _ (t7.keep _ _ ed5 (nt_lst _) hm0) (nt_lst _) hm0
      refine ⟨_, ed8, ?_, (z7.trans t8).mut hD, ?_, ?_⟩
      · have h2 := flat_part (f := cs) (j := j) hb
        have h3 : (cs B).take (j + 1) = (cs B).take j ++ [(cs B)[j]] := take_snoc hb1
        have h4 := flat_part (f := cs) (j := j + 1) hb
        rw [h3, ← List.append_assoc, List.length_append] at h4
        rw [List.length_map]
        exact Nat.lt_of_lt_of_le (show _ < 1000001 by simp only [List.length_cons, List.length_nil] at h4; omega) (by decide)
      · exact ((t5.trans t7.tm).trans t8.tm).trans (Tm.lst ed8)
      · rw [take_snoc hb1, ← List.append_assoc, kI_eq kw]
        generalize (bs.take i).flatMap cs ++ (cs B).take j = acc
        rw [List.map_append]
        exact upd_same
    · have ej : j = (cs B).length := by omega
      subst ej
      refine .inl ⟨by have := ok1.stops H5 kp1; rw [hlen1] at this; exact this, z5, ?_⟩
      rw [e]
      rw [List.take_length] at ed5
      exact ed5
  · have ei : i = bs.length := by omega
    subst ei
    refine .inl ⟨by have := ok.stops H' kp; rw [hlen] at this; exact this, ?_⟩
    rw [List.take_length] at ed
    exact q Dl _ H' (y.free _ hD) (y.trans z) ed (RpL.of_ints _)
theorem j_lc2 {bs : List β} {enc : β → PyData} {cs : β → List Int} {Gd : β → L2.St → Hp → Prop} {own : List (Str × Nat)} {pos : Pos} (hc : X.calm = true) (nd : X.N.Nodup) (ok : BlkOk X.N X.env.scope scope own) (hv1 : j1 ∈ own.map (·.2))
    (hg : ∀ (s : Shared) (H : Hp) (C : Addr) (cl : List (Str × Addr)) (fp : List Addr), PG (X.blk s H scope (compEnvC scope cl C X.env) fp) tg g)
    (hg1 : ∀ (s : Shared) (H : Hp) (C : Addr) (cl : List (Str × Addr)) (fp : List Addr), PG (X.blk s H scope (compEnvC scope cl C X.env) fp) tg1 (gName j1))
    (h : JIx M X tg it σ H (bs.map enc)) (hl : (bs.flatMap cs).length ≤ 1000000) (hgt : TgOk M H σ g (own.map (·.2)) bs enc Gd) (him : M.i H := by first | exact trivial | assumption)
    (hgm : ∀ H1 H2 b σ2, Tm H1 H2 → Gd b σ2 H1 → Gd b σ2 H2) (hw1 : ∀ σ2 (v : V), wipe ((wipe σ2 [j1]).set j1 (some v)) [j1] = wipe σ2 [j1])
    (hi : ∀ H1 b σ2, Xt M H H1 → b ∈ bs → Gd b σ2 H1 → JBI M X scope tg1 it1 σ2 H1 ((cs b).map .int))
    (he : ∀ H1 b σ2 c, Xt M H H1 → b ∈ bs → Gd b σ2 H1 → c ∈ cs b → JBK M X scope elt ((wipe σ2 [j1]).set j1 (some (.int c))) H1 (kI c))
    (hs : ∀ x, foldedSetIterable it X.env x = pure x := by intro _; rfl) (hs1 : ∀ env x, foldedSetIterable it1 env x = pure x := by intro _ _; rfl) : JL M X (.ListComp elt [⟨tg, it, [], 0⟩, ⟨tg1, it1, [], 0⟩] scope pos) σ H ((bs.flatMap cs).map .int) := fun H0 x Q q =>
  we_of (pe_lc2 (vs1 := [j1]) hc nd pi_wi ok (fun i m => by rw [List.mem_singleton.mp m]; exact hv1) hg (fun s H C cl fp => ⟨fun pins s' σ H' Q I h => h s H C cl fp pins s' I⟩) (fun s H C cl fp => ⟨fun pins s' σ H' Q I h => h s H C cl fp pins s' I⟩) hg1 (fun s H C cl fp => ⟨fun pins s' σ H' Q I h => h s H C cl fp pins s' I⟩) (fun s H C cl fp => ⟨fun pins s' σ H' Q I h => h s H C cl fp pins s' I⟩) hs hs1)
    (lc2_read h hl hgt him hgm hw1 hi he H0 x Q q)
end
end K68

set_option Elab.async false
set_option linter.all false
set_option maxRecDepth 100000
set_option maxHeartbeats 1000000
/-! K68, text B15: are_ways. -/
namespace K68
open PySem PySem.Spec L2 PySem.W
open PyProof.Rows hiding St
theorem Way.isW {F : Fab} {L d : Nat} {w : List Nat} (h : Way F L d w) : F.isW d w = true := by
  unfold Fab.isW
  rw [decide_eq_true h.good.nd, decide_eq_true h.head, Bool.true_and, Bool.true_and, List.all_eq_true]
  intro k hk
  refine decide_eq_true ?_
  have key : ∀ (w : List Nat), Chn F d w → ∀ k, k + 1 < w.length → w.getD (k + 1) 0 ∈ F.op (F.C (w.getD k 0)).v d := by
    intro w
    induction w with
    | nil => intro _ k h; simp at h
    | cons a r ih =>
      intro hc k hk
      cases r with
      | nil => simp at hk
      | cons b r =>
        cases k with
        | zero => exact hc.1
        | succ k => exact ih hc.2 k (by simpa using hk)
  exact key w h.chn k (by have := List.mem_range.mp hk; omega)
theorem Way.in {F : Fab} (ok : F.Ok) {L d : Nat} {w : List Nat} (hd : d < F.n) (h : Way F L d w) : WayIn F d w ∧ w.length ≤ 1000 := ⟨⟨ok, hd, h.good.ne, h.good.lt⟩, by have := h.good.len; have := ok.m6; omega⟩
structure AwI where
  F : Fab
  L : Nat
  ps : List Pr
structure AwI.ok (i : AwI) : Prop where
  F : i.F.Ok
  way : ∀ p ∈ i.ps, p.1 < i.F.n ∧ Way i.F i.L p.1 p.2
  asc : Asc i.ps
  len : i.ps.length ≤ 1000
  ne : i.ps ≠ []
def AwI.ks (i : AwI) : List Kn := [kD i.F.d, kI (i.L : Int), kD (dPrs i.ps)]
section
variable {P : Program} {w : World} {K : PySem.W.Frag} {mg : Str → Option Value} {base : Heap} {f : Addr} {fd : FuncData} {tbs : List Addr} {cT PT : Addr}
def spAw (tbs : List Addr) : Sp := spK tbs AwI.ok AwI.ks (fun _ => kB true)
theorem fnAw (B : Blt mg) (F : FunT K "are_ways" "are_ways" (topS 24) f fd cT) (hm : mg "are_ways" = some (.ref f)) (TB : GxR.TabB base mg cT PT) (hPT : PT ∈ tbs) (fW : FnK P w K mg base "is_whole" ["value", "least", "most"] 1 spWhole) (fI : FnK P w K mg base "is_way" A4 3 (spIw tbs)) (fL : FnK P w K mg base "least_length" A6 1 spLl) : FnK P w K mg base "are_ways" A24 4 (spAw tbs) := by
  refine fn_kT F hm sc24 (fun _ => rfl) (fun _ _ _ _ _ _ us hl => match us, hl with | [_, _, _], _ => rfl) fun A outer s H vs Q E i hr hp ht hk hq => ?_
  obtain ⟨F, L, ps⟩ := i
  have ok : F.Ok := hp.F
  have hw : ∀ p ∈ ps, p.1 < F.n ∧ Way F L p.1 p.2 := hp.way
  have asc : Asc ps := hp.asc
  have hlen : ps.length ≤ 1000 := hp.len
  have hpos : 0 < ps.length := List.length_pos_iff.mpr hp.ne
  have el : (((ps.length - 1 : Nat)) : Int) = ((ps.map dPr).length : Int) - 1 := by rw [List.length_map]; omega
  have hq : RetK M0 (kB true) H Q := hq
  obtain ⟨a, b, c, rfl, ha, hb, hc⟩ := k3 hk
  have ha : kD F.d H a := ha
  have hb : kI (L : Int) H b := hb
  have hc : kD (dPrs ps) H c := hc
  have hu := hu_of hr
  refine s_when (M := M0) (t := false) (JT.is (jt_or (t := !true) (jt_not (jt_val (j_isi (d := dPrs ps) (t := true) B (j_var 2 rfl hc) rfl B.tuple bt_tuple))) fun _ => jt_not (t := true) (jt_val (JK.is (d := .bool (ps.all fun _ => true)) (d' := .bool true)
      (j_all1 (k := 1) (bs := ps) (enc := dPr) (t := fun _ => true) (hr.mono (by decide : 1 + 1 ≤ 3)) rfl B.all TB rfl ⟨bk24_0, rfl, by decide +kernel, rfl⟩ sc24.nd (ht _ hPT) (ji_tup (j_var 2 rfl hc)).x (tg_name fun v => rfl)
        (fun s0 H0 cl C code bi fp A' pn => pg_name sc24.nd (i := 5) rfl (Or.inl rfl)) (fun H3 c' σ2 x3 hmem gd => ?_) (hb := bt_all)) (by rw [List.all_eq_true.mpr fun _ _ => rfl])))) rfl) (fun e => absurd e Bool.false_ne_true) fun _ H1 x1 => ?_
  · obtain ⟨v, hv, rfl⟩ := gd
    intro s0 H0 cl C code bi fp A' pn hrm
    exact j_and (t := true) (u := true) (j_isi (d := dPr c') (t := true) B (j_var 5 rfl hv) rfl B.tuple bt_tuple) fun _ => j_one (JK.is (j_cmp ok_eqI (j_lenT B (j_var 5 rfl hv)) j_int) rfl)
  refine s_for (M := M0) (pg_tup rfl (pgs_cons (pg_name (i := 3) sc24.nd rfl (Or.inl rfl)) (pgs_cons (pg_name (i := 4) sc24.nd rfl (Or.inl rfl)) pgs_nil))) (ji_tup (j_var 2 rfl (Mn.mono x1 hc))) rfl fun H2 x2 => ?_
  have x02 := x1.trans x2
  refine ⟨fun j σ' H' => ∃ o4 o5, σ' = [some a, some b, some c, o4, o5, none, none] ∧ Xt M0 H2 H', ⟨none, none, rfl, Xt.refl _⟩, fun j σ' H' ⟨_, _, _, x⟩ => x.tm, ?_, ?_⟩
  · rintro j dd v σ' H3 hj rv ⟨o4, o5, rfl, x3⟩
    have hj0 : (ps.map dPr)[j]? = some dd := hj
    rw [List.getElem?_map] at hj0
    obtain ⟨pj, hj1, rfl⟩ := Option.map_eq_some_iff.mp hj0
    obtain ⟨hd, wy⟩ := hw pj (List.mem_of_getElem? hj1)
    have x03 := x02.trans x3
    have hlt := wy.good.lt _ (last_mem wy.good.ne)
    refine g_pair rv fun v1 v2 r1 r2 => ?_
    have r1 : kI (pj.1 : Int) H3 v1 := r1
    have r2 : kD (dNs pj.2) H3 v2 := r2
    show WSs _ _ _ _ _
    refine s_when (M := M0) (t := false) (JT.is (jt_or (t := !true) (jt_not (t := true) (jt_val (JK.is (d' := .bool true) (d := .bool (decide ((0 : Int) ≤ (pj.1 : Int)) && decide ((pj.1 : Int) ≤ (F.n : Int) - 1)))
      (j_def ((pj.1 : Int), 0, (F.n : Int) - 1) fW (hr.mono (by decide : 1 ≤ 3)) trivial no_tabs (ja_cons (j_var 3 rfl r1) (ja_cons j_int (ja_cons (j_op ok_sub (j_n0 (j_f0 (j_var 0 rfl (Mn.mono x03 ha)))) j_int) ja_nil)))) (by
        rw [decide_eq_true (by omega), decide_eq_true (by omega)]; rfl)))) fun _ => jt_not (t := true) (jt_val (JK.is (d := .bool (F.isW pj.1 pj.2)) (j_def (F, pj.1, pj.2) fI hr (wy.in ok hd) (tabs_up x03 ht) (ja_cons (j_var 0 rfl (Mn.mono x03 ha)) (ja_cons (j_var 3 rfl r1) (ja_cons (j_var 4 rfl r2) ja_nil)))) (by rw [wy.isW])))) rfl) (fun e => absurd e Bool.false_ne_true) fun _ H4 x4 => ?_
    have x04 := x03.trans x4
    have r14 := Mn.mono (M := M0) x4 r1
    have r24 := Mn.mono (M := M0) x4 r2
    have hl6 := wy.good.len
    have h6 := ok.m6
    refine s_when (M := M0) (t := false) (JT.is (jt_or (jt_cmp ok_eqI (j_c1 (j_ch hlt (j_n1 (j_f0 (j_var 0 rfl (Mn.mono x04 ha)))) (j_last wy.good.ne (j_var 4 rfl r24)))) (j_var 3 rfl r14)) fun _ => jt_cmp ok_gt (j_def (F, pj.2) fL (hr.mono (by decide : 1 ≤ 3)) ⟨ok, by show pj.2.length ≤ 1000; omega, wy.good.lt⟩ no_tabs (ja_cons (j_f0 (j_var 0 rfl (Mn.mono x04 ha))) (ja_cons (j_var 4 rfl r24) ja_nil))) (j_var 1 rfl (Mn.mono x04 hb))) ?_) (fun e => absurd e Bool.false_ne_true) fun _ H5 x5 => ?_
    · have h1 := wy.last
      have h2 := wy.ll
      rw [decide_eq_false (by omega), decide_eq_false (by show ¬ ((L : Int) < (F.ll pj.2 : Nat)); omega)]
      rfl
    exact s_nil ⟨some v1, some v2, rfl, (x3.trans x4).trans x5⟩
  · rintro σ' H3 ⟨o4, o5, rfl, x3⟩
    have x03 := x02.trans x3
    have hc3 := Mn.mono (M := M0) x03 hc
    refine s_ret (M := M0) (K := kB true) (JK.is (d := .bool ((List.range (ps.length - 1)).all fun _ => true)) (j_all1 (k := 1) (bs := List.range (ps.length - 1)) (enc := dI) (t := fun _ => true) (hr.mono (by decide : 1 + 1 ≤ 3)) rfl B.all TB rfl ⟨bk24_1, rfl, by decide +kernel, rfl⟩ sc24.nd (x03.tab _ (ht _ hPT)) ?_ (tg_name fun v => rfl)
        (fun s0 H0 cl C code bi fp A' pn => pg_name sc24.nd (i := 6) rfl (Or.inl rfl)) (fun H5 k' σ2 x5 hmem gd => ?_) (hb := bt_all)) (by rw [List.all_eq_true.mpr fun _ _ => rfl])) fun v H4 x4 k => hq v H4 (x03.trans x4) k
    · exact JI.x (ji_rng rfl B.range (by rw [el]; exact j_op ok_sub (j_lenT B (j_var 2 rfl hc3)) j_int) (by omega))
    · obtain ⟨v, hv, rfl⟩ := gd
      intro s0 H0 cl C code bi fp A' pn hrm
      have hk' : k' < ps.length - 1 := List.mem_range.mp hmem
      have g1 : ps[k']? = some ps[k'] := by simp
      have g2 : ps[k' + 1]? = some (ps[k' + 1]'(by omega)) := by simp
      have hd := asc k' _ _ g1 g2
      have e1 : ((k' + 1 : Nat) : Int) = (k' : Int) + 1 := by omega
      have hv' : kI (k' : Int) H5 v := hv
      exact JK.is (j_cmp (ok_ltD (alike_pr _ _) (by unfold dPr; exact fun z => by cases z) (depth_pr _) (by have := hrm.un; show A'.units + 40 < cLine; omega)) (j_item (atI_map g1) (j_var 2 rfl (Mn.mono x5 hc3)) (j_var 6 rfl hv')) (j_item (i := (k' : Int) + 1) (by rw [← e1]; exact atI_map g2) (j_var 2 rfl (Mn.mono x5 hc3)) (j_op ok_add (j_var 6 rfl hv') j_int))) (by rw [hd])
end
end K68

set_option Elab.async false
set_option linter.all false
set_option maxRecDepth 100000
set_option maxHeartbeats 1000000
/-! K68, text B16: is_worm_knot. -/
namespace K68
open PySem PySem.Spec L2 PySem.W
open PyProof.Rows hiding St
theorem ok_inLN {M : Md} {X : Cx} {c : Nat} {cs : List Nat} : OpK M (compareOp .In) X (kI (c : Int)) (kL M (cs.map dI)) (kB (decide (c ∈ cs))) := by
  rw [← dec_castI]
  have := ok_inL (M := M) (X := X) (c := (c : Int)) (cs := castI cs)
  rw [← map_dI] at this
  exact this
section
variable {P : Program} {w : World} {K : PySem.W.Frag} {mg : Str → Option Value} {base : Heap} {f : Addr} {fd : FuncData} {tbs : List Addr} {cT PT : Addr}
structure WkI where
  F : Fab
  L : Nat
  ps : List Pr
structure WkI.ok (i : WkI) : Prop where
  F : i.F.Ok
  wk : WKS i.F i.L i.ps
def WkI.ks (i : WkI) : List Kn := [kD i.F.d, kI (i.L : Int), kD (dPrs i.ps)]
def spWk (tbs : List Addr) : Sp := spK tbs WkI.ok WkI.ks (fun _ => kB true)
theorem j_setL {M : Md} {X : Cx} {σ : L2.St} {H : Hp} {a : Expr} {p pos : Pos} {l : List Nat} (B : Blt X.mg) (hc : X.calm = true) (hl : l.length ≤ 1000) (h : JK M X a σ H (kL M (l.map dI))) (hg : Gl X "set" := by rfl) (hs : starEach [a] X.env = (false, eval a X.env) :: starEach [] X.env := by rfl) : JK M X (.Call (.Name "set" p) [a] [] pos) σ H (kSet X.prog X.w (dist l)) := by
  have o := ck_setL (M := M) (X := X) (ns := castI l) hc (by rw [castI_len]; exact hl)
  rw [← map_dI] at o
  exact j_callTy o hg B.set bt_set (ja_cons h ja_nil hs) (by decide) (by decide) hs rfl
theorem fnWk (B : Blt mg) (F : FunT K "is_worm_knot" "is_worm_knot" (topS 25) f fd cT) (hm : mg "is_worm_knot" = some (.ref f)) (TB : GxR.TabB base mg cT PT) (hPT : PT ∈ tbs) (fA : FnK P w K mg base "are_ways" A24 4 (spAw tbs)) (fO : FnK P w K mg base "way_options" ["fabric", "d", "way"] 1 spWo) : FnK P w K mg base "is_worm_knot" A25 5 (spWk tbs) := by
  refine fn_kT F hm sc25 (fun _ => rfl) (fun _ _ _ _ _ _ us hl => match us, hl with | [_, _, _], _ => rfl) fun A outer s H vs Q E i hr hp ht hk hq => ?_
  obtain ⟨F, L, ps⟩ := i
  have ok : F.Ok := hp.F
  have wk : WK F L ps := hp.wk.wk
  have asc : Asc ps := hp.wk.asc
  have hq : RetK M0 (kB true) H Q := hq
  obtain ⟨hl1, hl2⟩ := wk.len ok
  obtain ⟨a, b, c, rfl, ha, hb, hc⟩ := k3 hk
  have ha : kD F.d H a := ha
  have hb : kI (L : Int) H b := hb
  have hc : kD (dPrs ps) H c := hc
  have hu := hu_of hr
  have hpos : 0 < ps.length := List.length_pos_iff.mpr wk.ne
  refine s_when (M := M0) (t := false) (JT.is (jt_or (t := !true) (jt_not (jt_val (j_def (⟨F, L, ps⟩ : AwI) fA hr ⟨ok, wk.way, asc, by show ps.length ≤ 1000; omega, wk.ne⟩ ht (ja_cons (j_var 0 rfl ha) (ja_cons (j_var 1 rfl hb) (ja_cons (j_var 2 rfl hc) ja_nil)))))) fun _ => jt_cmp ok_eqI (j_lenT B (j_var 2 rfl hc)) j_int) (by
    rw [List.length_map, decide_eq_false (by omega)]; rfl)) (fun e => absurd e Bool.false_ne_true) fun _ H1 x1 => ?_
  have hc1 := Mn.mono (M := M0) x1 hc
  refine s_asgL (M := M0) 3 (ds := (ps.flatMap fun p => castI p.2).map .int) sc25.nd (j_lc2 (bs := ps) (enc := dPr) (cs := fun p => castI p.2) (j1 := 6) rfl sc25.nd bk25_0 (by decide) (fun s H C cl fp => pg_tup rfl (pgs_cons (pg_name (i := 4) sc25.nd rfl (Or.inl rfl)) (pgs_cons (pg_name (i := 5) sc25.nd rfl (Or.inl rfl)) pgs_nil))) (fun s H C cl fp => pg_name (i := 6) sc25.nd rfl (Or.inl rfl))
    (JI.x (ji_tup (j_var 2 rfl hc1))) ?_ (tg_pair (e1 := fun p : Pr => dI p.1) (e2 := fun p : Pr => dNs p.2) fun v w => rfl) trivial (fun H1 H2 b σ2 t h => gd2_tm t h) (fun σ2 v => ?_) (fun H2 b' σ2 x hb gd => ?_) (fun H2 b' σ2 c' x hb gd hc' => ?_)) fun q xs H2 n2 x2 e2 r2 => ?_
  · show (ps.flatMap fun p => castI p.2).length ≤ 1000000
    rw [flat_castI, castI_len]
    show (heldL ps).length ≤ 1000000
    omega
  · show (((σ2.set 6 none).set 6 (some v)).set 6 none) = σ2.set 6 none
    rw [List.set_set, List.set_set]
  · obtain ⟨v, w, r1, r2, rfl⟩ := gd
    intro s0 H0 C cl fp
    rw [← map_dI]
    exact ji_tup (j_var 5 rfl (K := kD (dNs b'.2)) r2)
  · obtain ⟨v, w, r1, r2, rfl⟩ := gd
    intro s0 H0 C cl fp
    exact j_var 6 rfl kI_of
  rw [flat_castI, ← map_dI] at r2
  have r2 : RpL H2 xs ((heldL ps).map dI) := r2
  have x02 := x1.trans x2
  have kq : kL M0 ((heldL ps).map dI) H2 (.ref q) := ⟨q, xs, rfl, e2, r2, id⟩
  have ht2 := tabs_up x02 ht
  have hdl : decide (((dist (heldL ps) : Nat) : Int) < (((heldL ps).map dI).length : Int)) = false := by
    rw [List.length_map, dist_lt, decide_eq_true wk.nd]
    rfl
  refine s_when (M := M0) (t := false) (JT.is (jt_cmp ok_lt (j_lenS B (j_setL B rfl (by omega) (j_var 3 rfl kq))) (j_lenL B (j_var 3 rfl kq))) hdl) (fun e => absurd e Bool.false_ne_true) fun _ H3 x3 => ?_
  have x03 := x02.trans x3
  refine s_ret (M := M0) (K := kB true) (JK.is (j_all2 (k := 3) (bs := ps) (enc := dPr) (cs := fun p => castI (F.wo p.1 p.2)) (t := fun c => decide (c ∈ castI (heldL ps))) (j1 := 6) hr rfl B.all TB rfl ⟨bk25_1, rfl, by decide +kernel, rfl⟩ sc25.nd (x3.tab _ (ht2 _ hPT)) (by decide)
    (JI.x (ji_tup (j_var 2 rfl (Mn.mono x03 hc)))) (tg_pair (e1 := fun p : Pr => dI p.1) (e2 := fun p : Pr => dNs p.2) fun v w => rfl) (fun H1 H2 b σ2 t h => gd2_tm t.tm h) (fun σ2 v => ?_)
    (fun s0 H0 cl C code bi fp A' pn => pg_tup rfl (pgs_cons (pg_name (i := 4) sc25.nd rfl (Or.inl rfl)) (pgs_cons (pg_name (i := 5) sc25.nd rfl (Or.inl rfl)) pgs_nil))) (fun s0 H0 cl C code bi fp A' pn => pg_name (i := 6) sc25.nd rfl (Or.inl rfl))
    (fun H4 b' σ2 x4 hb gd => ?_) (fun H4 b' σ2 c' x4 hb gd hc' => ?_) (hb := bt_all)) ?_) fun v H4 x4 k => hq v H4 (x03.trans x4) k
  · show (((σ2.set 6 none).set 6 (some v)).set 6 none) = σ2.set 6 none
    rw [List.set_set, List.set_set]
  · obtain ⟨v, w, r1, r2, rfl⟩ := gd
    intro s0 H0 cl C code bi fp A' pn hrm
    rw [← map_dI]
    obtain ⟨hd, wy⟩ := wk.way b' hb
    exact JI.x (ji_tup (j_def (F, b'.1, b'.2) fO (hrm.mono (by decide : 1 ≤ 3)) ⟨ok, hd, wy.good.ne, wy.good.lt⟩ no_tabs (ja_cons (j_var 0 rfl (Mn.mono (x03.trans x4) ha)) (ja_cons (j_var 4 rfl (K := kI (b'.1 : Int)) r1) (ja_cons (j_var 5 rfl (K := kD (dNs b'.2)) r2) ja_nil)))))
  · obtain ⟨v, w, r1, r2, rfl⟩ := gd
    intro s0 H0 cl C code bi fp A' pn hrm
    obtain ⟨cn, hcn, rfl⟩ := List.mem_map.mp hc'
    show JK M0 _ _ _ _ (kB (decide ((cn : Int) ∈ castI (heldL ps))))
    rw [dec_castI]
    exact j_cmp ok_inLN (j_var 6 rfl (K := kI (cn : Int)) kI_of) (j_var 3 rfl (Mn.mono (x3.trans x4) kq))
  · rw [flat_castI, List.all_eq_true.mpr fun c hc => ?_]
    obtain ⟨cn, hcn, rfl⟩ := List.mem_map.mp hc
    obtain ⟨p, hp', hz⟩ := List.mem_flatMap.mp hcn
    exact decide_eq_true (mem_castI.mpr (wk.cl p hp' cn hz))
end
end K68

set_option Elab.async false
set_option linter.all false
set_option maxRecDepth 100000
set_option maxHeartbeats 1000000
/-! K68, text B17: critical_length. -/
namespace K68
open PySem PySem.Spec L2 PySem.W
open PyProof.Rows hiding St
def maxN (l : List Nat) : Nat := l.foldr max 0
theorem maxN_le {l : List Nat} : ∀ x ∈ l, x ≤ maxN l := by
  induction l with
  | nil => intro x h; cases h
  | cons a r ih =>
    intro x h
    show x ≤ max a (maxN r)
    rcases List.mem_cons.mp h with h | h
    · omega
    · have := ih x h; omega
theorem maxN_mem {l : List Nat} (h : l ≠ []) : maxN l ∈ l := by
  induction l with
  | nil => exact absurd rfl h
  | cons a r ih =>
    show max a (maxN r) ∈ a :: r
    by_cases hr : r = []
    · subst hr
      show max a 0 ∈ [a]
      rw [Nat.max_zero]
      exact List.mem_singleton.mpr rfl
    · have := ih hr
      by_cases hz : a ≤ maxN r
      · rw [Nat.max_eq_right hz]; exact List.mem_cons_of_mem _ this
      · rw [Nat.max_eq_left (by omega)]; exact List.mem_cons_self
/-- the longest way of a knot -/
def Fab.mx (F : Fab) (q : List Pr) : Nat := maxN (q.map fun p => F.ll p.2)
theorem mx_knot {F : Fab} (ok : F.Ok) {L : Nat} {q : List Pr} (h : WK F L q) : 1 ≤ F.mx q ∧ F.mx q ≤ L ∧ F.kn (F.mx q) ≠ none := by
  have hne : (q.map fun p => F.ll p.2) ≠ [] := fun z => h.ne (List.map_eq_nil_iff.mp z)
  obtain ⟨p, hp, e⟩ := List.mem_map.mp (maxN_mem hne)
  have e : F.ll p.2 = F.mx q := e
  refine ⟨?_, ?_, fun z => ?_⟩
  · have : 1 ≤ F.ll p.2 := by unfold Fab.ll; omega
    omega
  · have := (h.way p hp).2.ll
    omega
  · exact kn_none ok z q (h.at fun p hp => maxN_le _ (List.mem_map.mpr ⟨p, hp, rfl⟩))
/-- what critical_length answers -/
def CritP (F : Fab) (c : Nat) : Prop := 1 ≤ c ∧ c ≤ 1000000 ∧ F.kn c ≠ none ∧ (c = 1 ∨ F.kn (c - 1) = none)
theorem crit_uniq {F : Fab} (ok : F.Ok) {a b : Nat} (ha : CritP F a) (hb : CritP F b) : a = b := by
  obtain ⟨a1, _, a2, a3⟩ := ha
  obtain ⟨b1, _, b2, b3⟩ := hb
  rcases Nat.lt_trichotomy a b with h | h | h
  · rcases b3 with z | z
    · omega
    · exact absurd (kn_mono ok (by omega) z) a2
  · exact h
  · rcases a3 with z | z
    · omega
    · exact absurd (kn_mono ok (by omega) z) b2
noncomputable def Fab.crit (F : Fab) : Nat := Classical.epsilon (CritP F)
theorem crit_of {F : Fab} (ok : F.Ok) {c : Nat} (h : CritP F c) : F.crit = c := crit_uniq ok (Classical.epsilon_spec ⟨c, h⟩) h
noncomputable def Fab.dCrit (F : Fab) : PyData := match F.kn 1000000 with
  | none => .none
  | some _ => dI F.crit
theorem fdiv_mid {lo hi : Nat} : (((lo : Int) + (hi : Int)) / 2) = (((lo + hi) / 2 : Nat) : Int) := by omega
section
variable {M : Md} {X : Cx} {K1 K2 : Kn} {a b : Expr} {σ : L2.St} {H : Hp} {D : Ends} {rest : List Stmt} {pos p : Pos}
def isNd : PyData → Bool
  | .none => true
  | _ => false
theorem ok_isD {d : PyData} : OpK M (compareOp .Is) X (kD d) (kD .none) (kB (isNd d)) := ok_isN fun H v k => by
  have := rp_non k
  rw [this]
  cases d <;> rfl
theorem ok_isntD {d : PyData} : OpK M (compareOp .IsNot) X (kD d) (kD .none) (kB (!isNd d)) := ok_notN fun H v k => by
  have := rp_non k
  rw [this]
  cases d <;> rfl
theorem s_par {i j : Nat} {x y : Str} {px py pt : Pos} {kt kk pt2} (nd : X.N.Nodup) (hc : X.calm = true) (ha : JA M X [a, b] σ H [K1, K2]) (hij : i ≠ j) (k : ∀ v w H1, Xt M H H1 → K1 H1 v → K2 H1 w → WSs X rest D ((σ.set i (some v)).set j (some w)) H1)
    (hi : X.N[i]? = some x := by rfl) (hj : X.N[j]? = some y := by rfl) (hx : X.env.scope.names.lookup x = some .local := by rfl) (hy : X.env.scope.names.lookup y = some .local := by rfl)
    (hw : swappedStores [.Tuple [.Name x px, .Name y py] kt pt] (.Tuple [a, b] kk pt2) X.env = pure (some [x, y]) := by rfl)
    (hs : swapsWithSole [.Tuple [.Name x px, .Name y py] kt pt] (.Tuple [a, b] kk pt2) pos.line X.env = pure false := by rfl) : WSs X (.Assign [.Tuple [.Name x px, .Name y py] kt pt] (.Tuple [a, b] kk pt2) pos :: rest) D σ H :=
  s_cons (ws_of (ps_par hc nd hi hj hij hx hy pa_wa hw hs) (ha H (Xt.refl H) _ fun vs H1 y ks => by
    obtain ⟨v, w, rfl, h1, h2⟩ := k2 ks
    exact ⟨v, w, rfl, k v w H1 y h1 h2⟩))
theorem j_maxN {l : List Nat} (B : Blt X.mg) (hc : X.calm = true) (h : JL M X a σ H (l.map dI)) (h0 : l ≠ []) (hi : M.i H := by first | exact trivial | assumption) (hg : Gl X "max" := by rfl) (hs : starEach [a] X.env = (false, eval a X.env) :: starEach [] X.env := by rfl) : JK M X (.Call (.Name "max" p) [a] [] pos) σ H (kI (maxN l : Nat)) := by
  rw [map_dI] at h
  refine j_callB (ck_max hc (by rw [castI_len]; exact List.length_pos_iff.mpr h0) fun k hk hall => ?_) hg B.max bt_max (ja_cons (h.k hi) ja_nil hs) (by decide) (by decide) hs rfl
  obtain ⟨n, hn, rfl⟩ := List.mem_map.mp hk
  have h1 := maxN_le n hn
  have h2 := hall _ (List.mem_map.mpr ⟨_, maxN_mem h0, rfl⟩)
  omega
end
section
variable {P : Program} {w : World} {K : PySem.W.Frag} {mg : Str → Option Value} {base : Heap} {f : Addr} {fd : FuncData} {tbs : List Addr} {cT PT : Addr}
noncomputable def spCl (tbs : List Addr) : Sp := spK tbs (ι := Fab) (fun F => F.Ok) (fun F => [kD F.d]) (fun F => kD F.dCrit)
theorem fnCl (B : Blt mg) (F : Fun K "critical_length" "critical_length" (topS 27) f fd) (hm : mg "critical_length" = some (.ref f)) (hM : ∃ u, mg "MOST" = some u ∧ RelV (.int 1000000) u) (fF : FnK P w K mg base "find_worm_knot" A26 16 (spFk tbs)) (fL : FnK P w K mg base "least_length" A6 1 spLl) : FnK P w K mg base "critical_length" A27 17 (spCl tbs) := by
  refine fn_k F hm sc27 (fun _ => rfl) (fun _ _ _ _ _ _ us hl => match us, hl with | [_], _ => rfl) fun cdv A outer s H vs Q E F hr hp ht hk hq => ?_
  have ok : F.Ok := hp
  have hq : RetK M0 (kD F.dCrit) H Q := hq
  obtain ⟨a, rfl, ha⟩ := k1 hk
  obtain ⟨uM, hMu, rM⟩ := hM
  have ha : kD F.d H a := ha
  have h6 := ok.m6
  refine s_asg (M := M0) 1 sc27.nd (K := kD (dKn (F.kn 1000000))) (j_def (F, 1000000) fF hr ok ht (ja_cons (j_var 0 rfl ha) (ja_cons (K := kI ((1000000 : Nat) : Int)) (j_glob (by rfl) hMu rM fun H => kI_of) ja_nil))) fun v1 H1 x1 k1 => ?_
  unfold Fab.dCrit at hq
  cases e0 : F.kn 1000000 with
  | none =>
    rw [e0] at k1 hq
    refine s_when (M := M0) (t := true) (JT.is (jt_cmp ok_isD (j_var 1 rfl k1) j_non) rfl) (fun _ H2 x2 => ?_) fun q => absurd q.symm Bool.false_ne_true
    exact s_ret (M := M0) j_non fun v H3 x3 k => hq v H3 ((x1.trans x2).trans x3) k
  | some q0 =>
    rw [e0] at k1 hq
    have k1 : kD (dPrs q0) H1 v1 := k1
    have hq : RetK M0 (kI (F.crit : Int)) H Q := hq
    have w0 := (kn_some ok e0).wk
    refine s_when (M := M0) (t := false) (JT.is (jt_cmp ok_isD (j_var 1 rfl k1) j_non) rfl) (fun q => absurd q Bool.false_ne_true) fun _ H2 x2 => ?_
    have x02 := x1.trans x2
    obtain ⟨m1, m2, m3⟩ := mx_knot ok w0
    refine s_par (M := M0) (i := 2) (j := 3) (K1 := kI ((1 : Nat) : Int)) (K2 := kI (F.mx q0 : Nat)) sc27.nd rfl (ja_cons j_int (ja_cons (j_maxN B rfl (l := q0.map fun p => F.ll p.2) ?_ ?_) ja_nil)) (by decide) fun v2 v3 H3 x3 k2 k3 => ?_
    · rw [List.map_map]
      refine j_lcT (bs := q0) (enc := dPr) rfl sc27.nd bk27_0 (fun s H C cl fp => pg_tup rfl (pgs_cons (pg_name (i := 5) sc27.nd rfl (Or.inl rfl)) (pgs_cons (pg_name (i := 6) sc27.nd rfl (Or.inl rfl)) pgs_nil))) (JI.x (ji_tup (j_var 1 rfl (Mn.mono x2 k1)))) ?_ (tg_pair (e1 := fun p : Pr => dI p.1) (e2 := fun p : Pr => dNs p.2) fun v w => rfl) (fun H3 p σ2 x hb gd => ?_)
      · have := (w0.len ok).1
        omega
      · obtain ⟨v, w, r1, r2, rfl⟩ := gd
        intro s0 H0 C cl fp
        have wy := (w0.way p hb).2
        have := wy.good.len
        exact j_def (F, p.2) fL (by exact hr.mono (by decide : 1 ≤ 16)) ⟨ok, by show p.2.length ≤ 1000; omega, wy.good.lt⟩ no_tabs (ja_cons (j_f0 (j_var 0 rfl (Mn.mono (x02.trans x) ha))) (ja_cons (j_var 6 rfl (K := kD (dNs p.2)) r2) ja_nil))
    · exact fun z => w0.ne (List.map_eq_nil_iff.mp z)
    have x03 := x02.trans x3
    refine s_while (M := M0) (fun m σ' H' => ∃ o1 u2 u3 o4 lo hi, σ' = [some a, some o1, some u2, some u3, o4, none, none] ∧ kI ((lo : Nat) : Int) H' u2 ∧ kI ((hi : Nat) : Int) H' u3 ∧ Xt M0 H H' ∧ m = hi - lo ∧ 1 ≤ lo ∧ lo ≤ hi ∧ hi ≤ 1000000 ∧ F.kn hi ≠ none ∧ (lo = 1 ∨ F.kn (lo - 1) = none)) (F.mx q0 - 1) ⟨v1, v2, v3, none, 1, F.mx q0, rfl, k2, k3, x03, rfl, Nat.le_refl _, m1, m2, m3, .inl rfl⟩ ?_
    rintro m σ' H4 ⟨o1, u2, u3, o4, lo, hi, rfl, ku2, ku3, x4, rfl, b1, b2, b3, b4, b5⟩
    refine ⟨decide ((lo : Int) < (hi : Int)), jt_cmp ok_lt (j_var 2 rfl ku2) (j_var 3 rfl ku3), fun q H5 x5 => ?_, fun q H5 x5 => ?_⟩
    · have hlt : lo < hi := by have := of_decide_eq_true q; omega
      have x05 := x4.trans x5
      have ku2' := Mn.mono (M := M0) x5 ku2
      have ku3' := Mn.mono (M := M0) x5 ku3
      refine s_asg (M := M0) 4 sc27.nd (K := kI (((lo + hi) / 2 : Nat) : Int)) (by rw [← fdiv_mid]; exact j_op (ok_fdiv ⟨by decide, by decide⟩) (j_op ok_add (j_var 2 rfl ku2') (j_var 3 rfl ku3')) j_int) fun v4 H6 x6 k4 => ?_
      have x06 := x05.trans x6
      obtain ⟨md, hmd⟩ : ∃ md, md = (lo + hi) / 2 := ⟨_, rfl⟩
      rw [← hmd] at k4
      refine s_asg (M := M0) 1 sc27.nd (K := kD (dKn (F.kn md))) (j_def (F, md) fF hr ok (tabs_up x06 ht) (ja_cons (j_var 0 rfl (Mn.mono x06 ha)) (ja_cons (j_var 4 rfl k4) ja_nil))) fun v1' H7 x7 k1' => ?_
      have x07 := x06.trans x7
      cases e1 : F.kn md with
      | none =>
        rw [e1] at k1'
        refine s_if (M := M0) (t := true) (JT.is (jt_cmp ok_isD (j_var 1 rfl k1') j_non) rfl) (fun _ H8 x8 => ?_) fun q => absurd q.symm Bool.false_ne_true
        refine s_asg (M := M0) 2 sc27.nd (K := kI ((md + 1 : Nat) : Int)) (by
          have e2 : ((md + 1 : Nat) : Int) = (md : Int) + 1 := by omega
          rw [e2]; exact j_op ok_add (j_var 4 rfl (Mn.mono (M := M0) (x7.trans x8) k4)) j_int) fun v2' H9 x9 k2' => ?_
        have x79 := (x7.trans x8).trans x9
        have hmh : md ≠ hi := fun z => by rw [z] at e1; exact b4 e1
        refine s_nil (s_nil ⟨hi - (md + 1), by omega, v1', v2', u3, some v4, md + 1, hi, rfl, k2', Mn.mono (M := M0) (x6.trans x79) ku3', x06.trans x79, rfl, by omega, by omega, b3, b4, .inr ?_⟩)
        rw [Nat.add_sub_cancel]
        exact e1
      | some q1 =>
        rw [e1] at k1'
        have k1' : kD (dPrs q1) H7 v1' := k1'
        have w1 := (kn_some ok e1).wk
        obtain ⟨n1, n2, n3⟩ := mx_knot ok w1
        have hlo : lo ≤ F.mx q1 := by
          rcases b5 with z | z
          · omega
          · by_cases hz : F.mx q1 ≤ lo - 1
            · exact absurd (kn_mono ok hz z) n3
            · omega
        refine s_if (M := M0) (t := false) (JT.is (jt_cmp ok_isD (j_var 1 rfl k1') j_non) rfl) (fun q => absurd q Bool.false_ne_true) fun _ H8 x8 => ?_
        refine s_asg (M := M0) 3 sc27.nd (K := kI (F.mx q1 : Nat)) (j_maxN B rfl (l := q1.map fun p => F.ll p.2) ?_ ?_) fun v3' H9 x9 k3' => ?_
        · rw [List.map_map]
          refine j_lcT (bs := q1) (enc := dPr) rfl sc27.nd bk27_1 (fun s H C cl fp => pg_tup rfl (pgs_cons (pg_name (i := 5) sc27.nd rfl (Or.inl rfl)) (pgs_cons (pg_name (i := 6) sc27.nd rfl (Or.inl rfl)) pgs_nil))) (JI.x (ji_tup (j_var 1 rfl (Mn.mono x8 k1')))) ?_ (tg_pair (e1 := fun p : Pr => dI p.1) (e2 := fun p : Pr => dNs p.2) fun v w => rfl) (fun H3 p σ2 x hb gd => ?_)
          · have := (w1.len ok).1
            omega
          · obtain ⟨v, w, r1, r2, rfl⟩ := gd
            intro s0 H0 C cl fp
            have wy := (w1.way p hb).2
            have := wy.good.len
            exact j_def (F, p.2) fL (by exact hr.mono (by decide : 1 ≤ 16)) ⟨ok, by show p.2.length ≤ 1000; omega, wy.good.lt⟩ no_tabs (ja_cons (j_f0 (j_var 0 rfl (Mn.mono ((x07.trans x8).trans x) ha))) (ja_cons (j_var 6 rfl (K := kD (dNs p.2)) r2) ja_nil))
        · exact fun z => w1.ne (List.map_eq_nil_iff.mp z)
        have x79 := (x7.trans x8).trans x9
        exact s_nil (s_nil ⟨F.mx q1 - lo, by omega, v1', u2, v3', some v4, lo, F.mx q1, rfl, Mn.mono (M := M0) (x6.trans x79) ku2', k3', x06.trans x79, rfl, b1, hlo, by omega, n3, b5⟩)
    · have hge : lo = hi := by have := of_decide_eq_false q; omega
      subst hge
      have ec := crit_of ok (c := lo) ⟨b1, b3, b4, b5⟩
      rw [ec] at hq
      exact s_ret (M := M0) (j_var 2 rfl (Mn.mono (M := M0) x5 ku2)) fun v H6 x6 k => hq v H6 ((x4.trans x5).trans x6) k
end
end K68

set_option Elab.async false
set_option linter.all false
set_option maxRecDepth 100000
/-! K68, text M7: goals, the greatest fixed set of channels, and worm knots of one-channel ways. -/
namespace K68
open PySem PySem.Spec L2 PySem.W
open PyProof.Rows hiding St
def Fab.pls (F : Fab) : List (Nat × Nat) := (List.range F.m).flatMap fun c => ((List.range F.n).filter fun d => decide (c ∈ F.op (F.C c).u d)).map fun d => (c, d)
theorem pls_mem {F : Fab} {p : Nat × Nat} : p ∈ F.pls ↔ p.1 < F.m ∧ p.2 < F.n ∧ p.1 ∈ F.op (F.C p.1).u p.2 := by
  unfold Fab.pls
  rw [List.mem_flatMap]
  constructor
  · rintro ⟨c, hc, h⟩
    obtain ⟨d, hd, rfl⟩ := List.mem_map.mp h
    obtain ⟨hd, ho⟩ := List.mem_filter.mp hd
    exact ⟨List.mem_range.mp hc, List.mem_range.mp hd, of_decide_eq_true ho⟩
  · rintro ⟨h1, h2, h3⟩
    exact ⟨p.1, List.mem_range.mpr h1, List.mem_map.mpr ⟨p.2, List.mem_filter.mpr ⟨List.mem_range.mpr h2, decide_eq_true h3⟩, rfl⟩⟩
theorem pls_len {F : Fab} (ok : F.Ok) : F.pls.length ≤ 24 := by
  have h := flat_le (f := fun c => ((List.range F.n).filter fun d => decide (c ∈ F.op (F.C c).u d)).map fun d => (c, d)) (n := 4) (l := List.range F.m) fun c _ => by
    rw [List.length_map]
    have := List.length_filter_le (fun d => decide (c ∈ F.op (F.C c).u d)) (List.range F.n)
    rw [List.length_range] at this
    have := ok.n4
    omega
  rw [List.length_range] at h
  have := ok.m6
  unfold Fab.pls
  omega
/-- what is added to c's goals -/
def Fab.gq (F : Fab) (c : Nat) (p : Nat × Nat) : Bool := decide (p.1 = c) && decide ((F.C p.1).v ≠ p.2)
def Fab.gv (F : Fab) (p : Nat × Nat) : Pr := (p.2, F.op (F.C p.1).v p.2)
def Fab.gls (F : Fab) (ps : List (Nat × Nat)) (c : Nat) : List Pr := (ps.filter (F.gq c)).map F.gv
def Fab.gl (F : Fab) (c : Nat) : List Pr := F.gls F.pls c
theorem gl_mem {F : Fab} {c : Nat} {g : Pr} : g ∈ F.gl c ↔ c < F.m ∧ g.1 < F.n ∧ c ∈ F.op (F.C c).u g.1 ∧ (F.C c).v ≠ g.1 ∧ g.2 = F.op (F.C c).v g.1 := by
  unfold Fab.gl Fab.gls
  rw [List.mem_map]
  constructor
  · rintro ⟨p, hp, rfl⟩
    obtain ⟨hp, hq⟩ := List.mem_filter.mp hp
    unfold Fab.gq at hq
    rw [Bool.and_eq_true, decide_eq_true_eq, decide_eq_true_eq] at hq
    obtain ⟨h1, h2, h3⟩ := pls_mem.mp hp
    obtain ⟨rfl, h5⟩ := hq
    exact ⟨h1, h2, h3, h5, rfl⟩
  · rintro ⟨h1, h2, h3, h4, h5⟩
    refine ⟨(c, g.1), List.mem_filter.mpr ⟨pls_mem.mpr ⟨h1, h2, h3⟩, ?_⟩, ?_⟩
    · unfold Fab.gq
      rw [Bool.and_eq_true, decide_eq_true_eq, decide_eq_true_eq]
      exact ⟨rfl, h4⟩
    · unfold Fab.gv
      rw [← h5]
theorem gl_len {F : Fab} (ok : F.Ok) (c : Nat) : (F.gl c).length ≤ 24 := by
  unfold Fab.gl Fab.gls
  rw [List.length_map]
  exact Nat.le_trans (List.length_filter_le _ _) (pls_len ok)
/-- the first goal within ks -/
def gw (g : List Pr) (ks : List Nat) : Option Nat := (g.find? fun p => p.2.all fun c => decide (c ∈ ks)).map (·.1)
theorem gw_some {g : List Pr} {ks : List Nat} {d : Nat} (h : gw g ks = some d) : ∃ p ∈ g, p.1 = d ∧ ∀ c ∈ p.2, c ∈ ks := by
  unfold gw at h
  obtain ⟨p, hp, rfl⟩ := Option.map_eq_some_iff.mp h
  refine ⟨p, List.mem_of_find?_eq_some hp, rfl, fun c hc => ?_⟩
  have := List.find?_some hp
  rw [List.all_eq_true] at this
  exact of_decide_eq_true (this c hc)
theorem gw_of {g : List Pr} {ks : List Nat} {p : Pr} (hp : p ∈ g) (h : ∀ c ∈ p.2, c ∈ ks) : gw g ks ≠ none := by
  unfold gw
  intro z
  rw [Option.map_eq_none_iff, List.find?_eq_none] at z
  refine z p hp (List.all_eq_true.mpr fun c hc => decide_eq_true (h c hc))
theorem gw_mono {g : List Pr} {ks ls : List Nat} (h : gw g ks ≠ none) (hs : ∀ c ∈ ks, c ∈ ls) : gw g ls ≠ none := by
  cases e : gw g ks with
  | none => exact absurd e h
  | some d =>
    obtain ⟨p, hp, _, hc⟩ := gw_some e
    exact gw_of hp fun c hcc => hs c (hc c hcc)
def Fab.outs (F : Fab) (ks : List Nat) : List Nat := ks.filter fun c => (gw (F.gl c) ks).isNone
def Fab.stay (F : Fab) (ks : List Nat) : List Nat := ks.filter fun c => (gw (F.gl c) ks).isSome
def Fab.stg (F : Fab) : Nat → List Nat → List Nat
  | 0, ks => ks
  | k + 1, ks => if F.outs ks = [] then ks else F.stg k (F.stay ks)
def Fab.G (F : Fab) : List Nat := F.stg (F.m + 1) (List.range F.m)
theorem outs_stay (F : Fab) (ks : List Nat) : (F.outs ks).length + (F.stay ks).length = ks.length := by
  have key : ∀ (l : List Nat), (l.filter fun c => (gw (F.gl c) ks).isNone).length + (l.filter fun c => (gw (F.gl c) ks).isSome).length = l.length := by
    intro l
    induction l with
    | nil => rfl
    | cons a r ih =>
      cases e : gw (F.gl a) ks with
      | none =>
        rw [List.filter_cons, List.filter_cons, e, if_pos (show (none : Option Nat).isNone = true from rfl), if_neg (show ¬ (none : Option Nat).isSome = true from Bool.false_ne_true), List.length_cons, List.length_cons]
        omega
      | some d =>
        rw [List.filter_cons, List.filter_cons, e, if_neg (show ¬ (some d).isNone = true from Bool.false_ne_true), if_pos (show (some d).isSome = true from rfl), List.length_cons, List.length_cons]
        omega
  exact key ks
theorem stg_out {F : Fab} : ∀ (k : Nat) (ks : List Nat), ks.length < k → F.outs (F.stg k ks) = []
  | 0, ks, h => by omega
  | k + 1, ks, h => by
    unfold Fab.stg
    by_cases e : F.outs ks = []
    · rw [if_pos e]; exact e
    · rw [if_neg e]
      have h1 := outs_stay F ks
      have h2 : 0 < (F.outs ks).length := List.length_pos_iff.mpr e
      exact stg_out k _ (by omega)
theorem stg_sub {F : Fab} : ∀ (k : Nat) (ks : List Nat), (F.stg k ks).Sublist ks
  | 0, ks => List.Sublist.refl _
  | k + 1, ks => by
    unfold Fab.stg
    by_cases e : F.outs ks = []
    · rw [if_pos e]; exact List.Sublist.refl _
    · rw [if_neg e]
      exact (stg_sub k _).trans List.filter_sublist
theorem stg_in {F : Fab} {S : List Nat} (hS : ∀ c ∈ S, gw (F.gl c) S ≠ none) : ∀ (k : Nat) (ks : List Nat), (∀ c ∈ S, c ∈ ks) → ∀ c ∈ S, c ∈ F.stg k ks
  | 0, ks, h => h
  | k + 1, ks, h => by
    unfold Fab.stg
    by_cases e : F.outs ks = []
    · rw [if_pos e]; exact h
    · rw [if_neg e]
      refine stg_in hS k _ fun c hc => ?_
      unfold Fab.stay
      rw [List.mem_filter]
      have := gw_mono (hS c hc) h
      refine ⟨h c hc, ?_⟩
      cases e : gw (F.gl c) ks with
      | none => exact absurd e this
      | some d => rfl
theorem G_out (F : Fab) : F.outs F.G = [] := stg_out _ _ (by rw [List.length_range]; omega)
theorem G_sub (F : Fab) : F.G.Sublist (List.range F.m) := stg_sub _ _
theorem G_nd (F : Fab) : F.G.Nodup := (G_sub F).nodup List.nodup_range
theorem G_lt {F : Fab} {c : Nat} (h : c ∈ F.G) : c < F.m := List.mem_range.mp ((G_sub F).mem h)
theorem G_gw {F : Fab} {c : Nat} (h : c ∈ F.G) : ∃ d, gw (F.gl c) F.G = some d := by
  cases e : gw (F.gl c) F.G with
  | some d => exact ⟨d, rfl⟩
  | none =>
    have : c ∈ F.outs F.G := List.mem_filter.mpr ⟨h, by rw [e]; rfl⟩
    rw [G_out] at this
    cases this
/-- the goal that stands for c -/
def Fab.gd (F : Fab) (c : Nat) : Nat := (gw (F.gl c) F.G).getD 0
theorem gd_eq {F : Fab} {c : Nat} (h : c ∈ F.G) : gw (F.gl c) F.G = some (F.gd c) := by
  obtain ⟨d, e⟩ := G_gw h
  unfold Fab.gd
  rw [e]
  rfl
def Fab.kp (F : Fab) : List Pr := F.G.map fun c => (F.gd c, [c])
theorem kp_held (F : Fab) : heldL F.kp = F.G := by
  unfold heldL Fab.kp
  rw [List.flatMap_map]
  show F.G.flatMap (fun c => [c]) = F.G
  rw [List.flatMap_singleton']
theorem kp_wk {F : Fab} (h : F.G ≠ []) : WK F 1 F.kp := by
  have key : ∀ p ∈ F.kp, ∃ c ∈ F.G, p = (F.gd c, [c]) ∧ F.gd c < F.n ∧ c ∈ F.op (F.C c).u (F.gd c) ∧ (F.C c).v ≠ F.gd c ∧ ∀ x ∈ F.op (F.C c).v (F.gd c), x ∈ F.G := by
    intro p hp
    obtain ⟨c, hc, rfl⟩ := List.mem_map.mp hp
    obtain ⟨g, hg, hd, hin⟩ := gw_some (gd_eq hc)
    obtain ⟨h1, h2, h3, h4, h5⟩ := gl_mem.mp hg
    rw [hd] at h2 h3 h4 h5
    rw [h5] at hin
    exact ⟨c, hc, rfl, h2, h3, h4, hin⟩
  refine ⟨fun z => h (List.map_eq_nil_iff.mp z), fun p hp => ?_, by rw [kp_held]; exact G_nd F, fun p hp c hc => ?_⟩
  · obtain ⟨c, hc, rfl, h2, h3, h4, h5⟩ := key p hp
    refine ⟨h2, ⟨by simp, by simp, fun x hx => by rw [List.mem_singleton.mp hx]; exact G_lt hc⟩, trivial, h3, ?_, h4⟩
    show F.ll [c] ≤ 1
    unfold Fab.ll
    simp
  · rw [kp_held]
    obtain ⟨c', hc', rfl, h2, h3, h4, h5⟩ := key p hp
    exact h5 c hc
theorem way1 {F : Fab} (ok : F.Ok) {d : Nat} {w : List Nat} (h : Way F 1 d w) : ∃ c, w = [c] := by
  have hne := h.good.ne
  have hll := h.ll
  have hlt := h.good.lt
  cases w with
  | nil => exact absurd rfl hne
  | cons c r =>
    cases r with
    | nil => exact ⟨c, rfl⟩
    | cons b r =>
      have h1 := (C_r ok (hlt b (by simp))).1
      unfold Fab.ll at hll
      simp only [List.drop_succ_cons, List.drop_zero, List.map_cons, List.sum_cons] at hll
      omega
theorem wk_G {F : Fab} (ok : F.Ok) {κ : List Pr} (h : WK F 1 κ) : F.G ≠ [] := by
  have hS : ∀ c ∈ heldL κ, gw (F.gl c) (heldL κ) ≠ none := by
    intro c hc
    obtain ⟨p, hp, hz⟩ := heldL_mem.mp hc
    obtain ⟨hd, wy⟩ := h.way p hp
    obtain ⟨x, hx⟩ := way1 ok wy
    rw [hx] at hz
    have hz := List.mem_singleton.mp hz
    subst hz
    have h1 := wy.head
    have h2 := wy.last
    have h3 := h.cl p hp
    have h4 := wy.good.lt c (by rw [hx]; exact List.mem_singleton.mpr rfl)
    unfold Fab.wo at h3
    rw [hx] at h1 h2 h3
    exact gw_of (p := (p.1, F.op (F.C c).v p.1)) (gl_mem.mpr ⟨h4, hd, h1, h2, rfl⟩) fun y hy => h3 y hy
  obtain ⟨p, hp⟩ := List.exists_mem_of_ne_nil κ h.ne
  obtain ⟨x, hx⟩ := way1 ok (h.way p hp).2
  have hc : x ∈ heldL κ := heldL_mem.mpr ⟨p, hp, by rw [hx]; exact List.mem_singleton.mpr rfl⟩
  have := stg_in hS (F.m + 1) (List.range F.m) (fun c hc => by
    obtain ⟨p, hp, hz⟩ := heldL_mem.mp hc
    exact List.mem_range.mpr ((h.way p hp).2.good.lt c hz)) x hc
  exact fun z => by
    have hG : x ∈ F.G := this
    rw [z] at hG
    cases hG
/-- no knot of the case, no worm knot at 1 -/
theorem G_kn {F : Fab} (ok : F.Ok) : F.G = [] ↔ F.kn 1 = none := by
  constructor
  · intro h
    cases e : F.kn 1 with
    | none => rfl
    | some q => exact absurd h (wk_G ok (kn_some ok e).wk)
  · intro h
    by_cases z : F.G = []
    · exact z
    · exact absurd (kp_wk z) (kn_none ok h _)
end K68

set_option Elab.async false
set_option linter.all false
set_option maxRecDepth 100000
set_option maxHeartbeats 1000000
/-! K68, text C2: own lists, lists of lists, list comprehensions that are known by a relation. -/
namespace K68
open PySem PySem.Spec L2
open PyProof.Rows hiding St
/-- this list, at this place -/
def kOwn (M : Md) (p : Addr) (xs : List V) : Kn := fun H v => v = .ref p ∧ H p = some (.lst xs) ∧ ¬ M.m p
instance (M : Md) (p : Addr) (xs : List V) : Mn M (kOwn M p xs) := ⟨fun e ⟨a, b, c⟩ => ⟨a, e.keep _ _ b (nt_lst xs) c, c⟩⟩
/-- a list of lists -/
def kLL (M : Md) (dss : List (List PyData)) : Kn := fun H v => ∃ (p : Addr) (xs : List V), v = .ref p ∧ H p = some (.lst xs) ∧ ¬ M.m p ∧ xs.length = dss.length ∧ ∀ (i : Nat) (ds : List PyData), dss[i]? = some ds → ∃ u : V, xs[i]? = some u ∧ kL M ds H u
instance (M : Md) (dss : List (List PyData)) : Mn M (kLL M dss) := ⟨fun e h => by
  obtain ⟨p, xs, a, b, c, d, f⟩ := h
  refine ⟨p, xs, a, e.keep _ _ b (nt_lst xs) c, c, d, fun i ds hi => ?_⟩
  obtain ⟨u, h1, h2⟩ := f i ds hi
  exact ⟨u, h1, Mn.mono e h2⟩⟩
/-- some datum of these -/
def kX {γ : Type} (E : γ → Prop) (gg : γ → PyData) : Kn := fun H v => ∃ c, E c ∧ Rp H v (gg c)
instance {γ : Type} (M : Md) (E : γ → Prop) (gg : γ → PyData) : Mn M (kX E gg) := ⟨fun e ⟨c, h1, h2⟩ => ⟨c, h1, Rp.tm e.tm _ h2⟩⟩
section
variable {M : Md} {X : Cx}
theorem ix_own {p : Addr} {xs : List V} {i : Int} {v : V} (h : atI xs i = some v) : IxK M X (kOwn M p xs) (kI i) (kE v) := ⟨_, ix_list, fun H x y Q a b q => by
  obtain ⟨rfl, e, _⟩ := a
  exact ⟨p, xs, i, v, rfl, kI_eq b, SqL.of e, h, q v H (Xt.refl H) rfl⟩⟩
theorem ix_ll {dss : List (List PyData)} {i : Nat} {ds : List PyData} (h : dss[i]? = some ds) : IxK M X (kLL M dss) (kI (i : Int)) (kL M ds) := ⟨_, ix_list, fun H x y Q a b q => by
  obtain ⟨p, xs, rfl, e, _, hl, f⟩ := a
  obtain ⟨u, h1, h2⟩ := f i ds h
  exact ⟨p, xs, i, u, rfl, kI_eq b, SqL.of e, atI_nat h1, q u H (Xt.refl H) h2⟩⟩
end
/-- a list of lists, all of the def's own -/
structure OLL (M : Md) (H0 H : Hp) (p : Addr) (qs : List Addr) (dss : List (List PyData)) : Prop where
  np : H0 p = none
  nq : ∀ q ∈ qs, H0 q = none
  mp : ¬ M.m p
  mq : ∀ q ∈ qs, ¬ M.m q
  loc : H p = some (.lst (qs.map V.ref))
  nd : (p :: qs).Nodup
  len : qs.length = dss.length
  inn : ∀ (i : Nat) (q : Addr) (ds : List PyData), qs[i]? = some q → dss[i]? = some ds → ∃ xs, H q = some (.lst xs) ∧ RpL H xs ds
theorem OLL.up {M : Md} {H0 H H' : Hp} {p : Addr} {qs : List Addr} {dss : List (List PyData)} (h : OLL M H0 H p qs dss) (x : Xt M H H') : OLL M H0 H' p qs dss :=
  ⟨h.np, h.nq, h.mp, h.mq, x.keep _ _ h.loc (nt_lst _) h.mp, h.nd, h.len, fun i q ds h1 h2 => by
    obtain ⟨xs, e, r⟩ := h.inn i q ds h1 h2
    exact ⟨xs, x.keep _ _ e (nt_lst xs) (h.mq q (List.mem_of_getElem? h1)), RpL.tm x.tm _ r⟩⟩
theorem OLL.k {M : Md} {H0 H : Hp} {p : Addr} {qs : List Addr} {dss : List (List PyData)} (h : OLL M H0 H p qs dss) : kLL M dss H (.ref p) :=
  ⟨p, _, rfl, h.loc, h.mp, by rw [List.length_map]; exact h.len, fun i ds hi => by
    have hlt : i < qs.length := by have := (List.getElem?_eq_some_iff.mp hi).1; rw [h.len]; exact this
    have hq : qs[i]? = some qs[i] := by simp [hlt]
    obtain ⟨xs, e, r⟩ := h.inn i _ ds hq hi
    exact ⟨.ref qs[i], by rw [List.getElem?_map, hq]; rfl, qs[i], xs, rfl, e, r, h.mq _ (List.mem_of_getElem? hq)⟩⟩
theorem OLL.own {M : Md} {H0 H : Hp} {p : Addr} {qs : List Addr} {dss : List (List PyData)} (h : OLL M H0 H p qs dss) : kOwn M p (qs.map V.ref) H (.ref p) := ⟨rfl, h.loc, h.mp⟩
theorem OLL.get {M : Md} {H0 H : Hp} {p : Addr} {qs : List Addr} {dss : List (List PyData)} (h : OLL M H0 H p qs dss) {i : Nat} {ds : List PyData} (hi : dss[i]? = some ds) : ∃ q xs, qs[i]? = some q ∧ H q = some (.lst xs) ∧ RpL H xs ds ∧ ¬ M.m q ∧ H0 q = none := by
  have hlt : i < qs.length := by have := (List.getElem?_eq_some_iff.mp hi).1; rw [h.len]; exact this
  have hq : qs[i]? = some qs[i] := by simp [hlt]
  obtain ⟨xs, e, r⟩ := h.inn i _ ds hq hi
  exact ⟨_, xs, hq, e, r, h.mq _ (List.mem_of_getElem? hq), h.nq _ (List.mem_of_getElem? hq)⟩
theorem OLL.put {M : Md} {H0 H : Hp} {p q : Addr} {qs : List Addr} {dss : List (List PyData)} (h : OLL M H0 H p qs dss) {i : Nat} {xs ys : List V} {ds : List PyData} (hq : qs[i]? = some q) (he : H q = some (.lst xs)) (hr : RpL H ys ds) : OLL M H0 (upd H q (.lst ys)) p qs (dss.set i ds) := by
  have hpq : p ≠ q := fun z => (List.nodup_cons.mp h.nd).1 (z ▸ List.mem_of_getElem? hq)
  have ht : Tm H (upd H q (.lst ys)) := Tm.lst he
  refine ⟨h.np, h.nq, h.mp, h.mq, (upd_ne hpq).trans h.loc, h.nd, by rw [List.length_set]; exact h.len, fun j q' ds' h1 h2 => ?_⟩
  by_cases hj : i = j
  · subst hj
    have e : q' = q := by rw [hq] at h1; exact (Option.some.inj h1).symm
    subst e
    rw [List.getElem?_set_self (by have := (List.getElem?_eq_some_iff.mp hq).1; rw [← h.len]; exact this)] at h2
    cases h2
    exact ⟨ys, upd_same, RpL.tm ht _ hr⟩
  · rw [List.getElem?_set_ne hj] at h2
    have hne : q' ≠ q := fun z => by
      subst z
      have hnd := (List.nodup_cons.mp h.nd).2
      have g1 := List.getElem?_eq_some_iff.mp hq
      have g2 := List.getElem?_eq_some_iff.mp h1
      exact hj ((List.getElem_inj (h₀ := g1.1) (h₁ := g2.1) hnd).mp (g1.2.trans g2.2.symm))
    obtain ⟨zs, e, r⟩ := h.inn j q' ds' h1 h2
    exact ⟨zs, (upd_ne hne).trans e, RpL.tm ht _ r⟩
section
variable {M : Md} {X : Cx} {σ : L2.St} {H : Hp} {e i o : Expr} {K : Kn} {D : Ends} {rest : List Stmt} {pos pos' : Pos}
/-- o[i] = e on a list of the def's own -/
theorem s_setL [Mn M K] {l : Addr} {xs : List V} {j : Nat} (hv : JK M X e σ H K) (ho : JK M X o σ H (kE (.ref l))) (hl : H l = some (.lst xs)) (hi : JK M X i σ H (kI (j : Int))) (hj : j < xs.length) (hm : ¬ M.m l := by first | exact id | assumption)
    (k : ∀ v H1, Xt M H H1 → K H1 v → H1 l = some (.lst xs) → WSs X rest D σ (upd H1 l (.lst (xs.set j v))))
    (ha : ∀ v, assign (.Subscript o i pos') X.env v = (do
      let ov ← holding [v] (eval o X.env)
      let iv ← holding [v, ov] (eval i X.env)
      standAt pos'
      holding [v, ov, iv] (setItem ov iv v)
      release [v, ov, iv] []) := by intro _; rfl)
    (hs : swapsWithSole [.Subscript o i pos'] e pos.line X.env = pure false := by rfl) (hw : swappedStores [.Subscript o i pos'] e X.env = pure none := by rfl)
    (h1 : (assignEach [.Subscript o i pos'] X.env).map (·.2) = [assign (.Subscript o i pos') X.env] := by rfl) : WSs X (.Assign [.Subscript o i pos'] e pos :: rest) D σ H :=
  s_cons (ws_of (ps_asg pe_we (pg_sub pe_we pe_we set_list ha) hs hw h1) (hv H (Xt.refl H) _ fun v H1 y kv => ho H1 y _ fun u H2 z ku => hi H2 (y.trans z) _ fun w H3 t kw => by
    have x3 := (y.trans z).trans t
    have hl3 := x3.keep _ _ hl (nt_lst xs) hm
    have ku : u = .ref l := ku
    exact ⟨l, xs, j, j, ku, kI_eq kw, hl3, (by unfold ixN; rw [if_pos (by omega), if_pos (by omega)]; rfl), k v H3 x3 (Mn.mono (z.trans t) kv) hl3⟩))
/-- o.append(e), o an expression -/
theorem s_appO [Mn M K] {ap cp : Pos} {l : Addr} {xs : List V} (ho : JK M X o σ H (kE (.ref l))) (hl : H l = some (.lst xs)) (h : JK M X e σ H K) (hz : xs.length < 1000000) (hm : ¬ M.m l := by first | exact id | assumption) (k : ∀ v H1, Xt M H H1 → K H1 v → H1 l = some (.lst xs) → WSs X rest D σ (upd H1 l (.lst (xs ++ [v]))))
    (hst : starEach [e] X.env = (false, eval e X.env) :: starEach [] X.env := by rfl)
    (hsw : swapsWith (.Call (.Attribute o "append" ap) [e] [] cp) none pos.line X.env = pure false := by rfl)
    (hpe : ∀ (to : TE) (t : TA), PE X o to → PA X [e] t → PE X (.Call (.Attribute o "append" ap) [e] [] cp) (tBM X.K "list" rAppend to t) := by exact fun to t h1 h2 => pe_bm PySem.F.plainAttrs_list PySem.F.slot_list_append PySem.F.type_list_append mt_append h1 h2) :
    WSs X (.Expr (.Call (.Attribute o "append" ap) [e] [] cp) pos :: rest) D σ H := by
  refine s_cons (ws_of (ps_expr (hpe _ _ pe_we pa_wa) hsw) (ho H (Xt.refl H) _ fun u H1 y ku => ?_))
  have ku : u = .ref l := ku
  subst ku
  have hl1 := y.keep _ _ hl (nt_lst xs) hm
  refine ⟨.inl ⟨rfl, _, SqL.of hl1⟩, ja_cons h ja_nil hst H1 y _ fun vs H2 z kv => ?_⟩
  obtain ⟨v, rfl, kw⟩ := k1 kv
  have hl2 := z.keep _ _ hl1 (nt_lst xs) hm
  exact ⟨l, xs, v, rfl, rfl, hl2, Nat.lt_of_lt_of_le hz (by decide), k v H2 (y.trans z) kw hl2⟩
/-- name = e, a list of lists -/
def JLL (M : Md) (X : Cx) (e : Expr) (σ : L2.St) (H : Hp) (dss : List (List PyData)) : Prop := ∀ H1, Xt M H H1 → ∀ Q : VK, (∀ p qs H2, Xt M H1 H2 → OLL M H1 H2 p qs dss → Q (.ref p) H2) → WE X e σ H1 Q
theorem s_asgLL (i : Nat) {x : Str} {p : Pos} {dss : List (List PyData)} (nd : X.N.Nodup) (h : JLL M X e σ H dss) (k : ∀ q qs H1, Xt M H H1 → OLL M H H1 q qs dss → WSs X rest D (σ.set i (some (.ref q))) H1) (hi : X.N[i]? = some x := by rfl) (hx : Loc X.env.scope x := by first | exact Or.inl rfl | exact Or.inr rfl)
    (hs : swapsWith e (some (.Name x p)) pos.line X.env = pure false := by rfl) (hf : X.fn x = true ∨ X.env.scope.names.lookup x = some .local := by first | exact Or.inl rfl | exact Or.inr rfl) : WSs X (.Assign [.Name x p] e pos :: rest) D σ H :=
  s_cons (ws_of (ps_set nd hi hx pe_we hs hf) (h H (Xt.refl H) _ fun q qs H1 y ex => k q qs H1 y ex))
end
/-! ### tests that may come out either way -/
def JTE (M : Md) (X : Cx) (e : Expr) (σ : L2.St) (H : Hp) (P : Bool → Prop) : Prop := ∀ H1, Xt M H H1 → ∀ Q : Bool → Hp → Prop, (∀ b H2, Xt M H1 H2 → P b → Q b H2) → WT X e σ H1 Q
def JTEs (M : Md) (X : Cx) (es : List Expr) (σ : L2.St) (H : Hp) (P : Bool → Prop) : Prop := ∀ H1, Xt M H H1 → ∀ Q : Bool → Hp → Prop, (∀ b H2, Xt M H1 H2 → P b → Q b H2) → WTs X es σ H1 Q
def JBTEs (M : Md) (X : Cx) (scope : Scope) (es : List Expr) (σ : L2.St) (H : Hp) (P : Bool → Prop) : Prop := ∀ (s0 : Shared) (H0 : Hp) (C : Addr) (cl : List (Str × Addr)) (fp : List Addr), JTEs M (X.blk s0 H0 scope (compEnvC scope cl C X.env) fp) es σ H P
theorem jte_of {M : Md} {X : Cx} {e : Expr} {σ : L2.St} {H : Hp} {b : Bool} (h : JT M X e σ H b) : JTE M X e σ H (fun t => t = b) := fun H1 x Q q => h H1 x Q fun H2 y => q b H2 y rfl
theorem JTE.imp {M : Md} {X : Cx} {e : Expr} {σ : L2.St} {H : Hp} {P P' : Bool → Prop} (h : JTE M X e σ H P) (i : ∀ b, P b → P' b) : JTE M X e σ H P' := fun H1 x Q q => h H1 x Q fun b H2 y p => q b H2 y (i b p)
theorem jtes_one {M : Md} {X : Cx} {e : Expr} {σ : L2.St} {H : Hp} {P : Bool → Prop} (h : JTE M X e σ H P) : JTEs M X [e] σ H P := fun H1 x Q q => wts_of (pts_one pt_wt) (h H1 x Q q)
theorem jtes_nil {M : Md} {X : Cx} {σ : L2.St} {H : Hp} : JTEs M X [] σ H (fun t => t = true) := fun H1 x Q q => wts_of pts_nil (q true H1 (Xt.refl H1) rfl)
section
variable {M : Md} {X : Cx} {σ : L2.St} {H : Hp} {scope : Scope} {β γ : Type} {tg it elt : Expr} {ifs : List Expr} {g : TG} {vs : List Nat}
/-- the list grows as I says -/
theorem lcR_read {bs : List β} {enc : β → PyData} {gg : γ → PyData} {I : Nat → List γ → Prop} {Pt : β → Bool → Prop} {Pe : β → γ → Prop} {Gd : β → L2.St → Hp → Prop} (h : JIx M X tg it σ H (bs.map enc)) (hl : bs.length ≤ 1000000) (hgt : TgOk M H σ g vs bs enc Gd) (hi : M.i H)
    (ht : ∀ H1 b σ2, Xt M H H1 → b ∈ bs → Gd b σ2 H1 → JBTEs M X scope ifs σ2 H1 (Pt b)) (he : ∀ H1 b σ2, Xt M H H1 → b ∈ bs → Gd b σ2 H1 → JBK M X scope elt σ2 H1 (kX (Pe b) gg))
    (h0 : I 0 []) (hlen : ∀ i acc, I i acc → acc.length ≤ i) (hf : ∀ i b acc, bs[i]? = some b → I i acc → Pt b false → I (i + 1) acc) (hn : ∀ i b acc c, bs[i]? = some b → I i acc → Pt b true → Pe b c → I (i + 1) (acc ++ [c])) :
    ∀ H0, Xt M H H0 → ∀ Q : VK, (∀ p xs H2 l, H0 p = none → Xt M H0 H2 → H2 p = some (.lst xs) → RpL H2 xs (l.map gg) → I bs.length l → Q (.ref p) H2) → tLc (WI X tg it) g (BTs X scope ifs) (BE X scope elt) vs σ H0 Q := by
  intro H0 x Q q
  refine h H0 x _ fun J Kp H1 y ok k0 => ?_
  intro Dl hD
  have hm0 : ¬ M.m Dl := M.new ((x.trans y).inv hi) hD
  have hlenb : (bs.map enc).length = bs.length := List.length_map _
  refine ⟨fun i m H' => m = bs.length - i ∧ i ≤ bs.length ∧ Xt M H1 H' ∧ ∃ xs acc, H' Dl = some (.lst xs) ∧ RpL H' xs (acc.map gg) ∧ I i acc, ⟨bs.length, by simp, Nat.zero_le _, Xt.new hD, [], [], upd_same, .nil, h0⟩, ?_⟩
  rintro i m H' ⟨rfl, hi', z, xs, acc, ed, rl, hI⟩
  have kp := ok.up _ _ z k0
  by_cases hlt : i < bs.length
  · refine .inr ⟨ok.goes i H' kp (by rw [hlenb]; exact hlt), fun H2 => Xt M H1 H2 ∧ ∃ xs acc, H2 Dl = some (.lst xs) ∧ RpL H2 xs (acc.map gg) ∧ I (i + 1) acc, fun H2 p' => ⟨bs.length - (i + 1), by omega, rfl, hlt, p'⟩, fun v H2 yy => ?_⟩
    obtain ⟨rfl, d, hd, r⟩ := ok.yld i H' v H2 kp (by rw [hlenb]; exact hlt) yy
    have hb : bs[i]? = some bs[i] := by simp [hlt]
    rw [List.getElem?_map, hb] at hd
    have hd : enc bs[i] = d := Option.some.inj hd
    subst hd
    have hm : bs[i] ∈ bs := List.getElem_mem hlt
    refine hgt H2 bs[i] v _ ((x.trans y).trans z) hm r fun σ2 hw gd => ⟨hw, ?_⟩
    intro s0 H0' C cl fp
    refine ht H2 bs[i] σ2 ((x.trans y).trans z) hm gd s0 H0' C cl fp H2 (Xt.refl H2) _ fun bb H3 t pb => ?_
    have ed3 := t.keep _ _ ed (nt_lst xs) hm0
    cases bb with
    | true =>
      rw [if_pos rfl]
      intro s0 H0' C cl fp
      refine he H2 bs[i] σ2 ((x.trans y).trans z) hm gd s0 H0' C cl fp H3 t _ fun w H4 t4 kw => ?_
      obtain ⟨c, pc, rc⟩ := kw
      have ed4 := t4.keep _ _ ed3 (nt_lst xs) hm0
      refine ⟨xs, ed4, ?_, ((z.trans t).trans t4).mut hD, xs ++ [w], acc ++ [c], upd_same, ?_, hn i _ acc c hb hI pb pc⟩
      · rw [rl.length, List.length_map]
        have := hlen i acc hI
        exact Nat.lt_of_lt_of_le (show _ < 1000001 by omega) (by decide)
      · have tm : Tm H4 (upd H4 Dl (.lst (xs ++ [w]))) := Tm.lst ed4
        rw [List.map_append]
        exact RpL.tm tm _ ((RpL.tm (t.trans t4).tm _ rl).app (.cons rc .nil))
    | false =>
      rw [if_neg Bool.false_ne_true]
      exact ⟨z.trans t, xs, acc, ed3, RpL.tm t.tm _ rl, hf i _ acc hb hI pb⟩
  · have ei : i = bs.length := by omega
    subst ei
    refine .inl ⟨by have := ok.stops H' kp; rw [hlenb] at this; exact this, ?_⟩
    exact q Dl xs H' acc (y.free _ hD) (y.trans z) ed rl hI
/-- a new list of which R holds -/
def JLR (M : Md) (X : Cx) (e : Expr) (σ : L2.St) (H : Hp) (gg : γ → PyData) (R : List γ → Prop) : Prop := ∀ H1, Xt M H H1 → ∀ Q : VK, (∀ p xs H2 l, H1 p = none → Xt M H1 H2 → H2 p = some (.lst xs) → RpL H2 xs (l.map gg) → R l → Q (.ref p) H2) → WE X e σ H1 Q
theorem j_lcR {bs : List β} {enc : β → PyData} {gg : γ → PyData} {I : Nat → List γ → Prop} {Pt : β → Bool → Prop} {Pe : β → γ → Prop} {Gd : β → L2.St → Hp → Prop} {own : List (Str × Nat)} {pos : Pos} (hc : X.calm = true) (nd : X.N.Nodup) (ok : BlkOk X.N X.env.scope scope own)
    (hg : ∀ (s : Shared) (H : Hp) (C : Addr) (cl : List (Str × Addr)) (fp : List Addr), PG (X.blk s H scope (compEnvC scope cl C X.env) fp) tg g)
    (h : JIx M X tg it σ H (bs.map enc)) (hl : bs.length ≤ 1000000) (hgt : TgOk M H σ g (own.map (·.2)) bs enc Gd)
    (ht : ∀ H1 b σ2, Xt M H H1 → b ∈ bs → Gd b σ2 H1 → JBTEs M X scope ifs σ2 H1 (Pt b)) (he : ∀ H1 b σ2, Xt M H H1 → b ∈ bs → Gd b σ2 H1 → JBK M X scope elt σ2 H1 (kX (Pe b) gg))
    (h0 : I 0 []) (hlen : ∀ i acc, I i acc → acc.length ≤ i) (hf : ∀ i b acc, bs[i]? = some b → I i acc → Pt b false → I (i + 1) acc) (hn : ∀ i b acc c, bs[i]? = some b → I i acc → Pt b true → Pe b c → I (i + 1) (acc ++ [c])) (hi : M.i H := by first | exact trivial | assumption)
    (hs : ∀ x, foldedSetIterable it X.env x = pure x := by intro _; rfl) : JLR M X (.ListComp elt [⟨tg, it, ifs, 0⟩] scope pos) σ H gg (I bs.length) := fun H0 x Q q =>
  we_of (pe_lc hc nd pi_wi ok hg (fun s H C cl fp => ⟨fun pins s' σ H' Q I h => h s H C cl fp pins s' I⟩) (fun s H C cl fp => ⟨fun pins s' σ H' Q I h => h s H C cl fp pins s' I⟩) hs) (lcR_read h hl hgt hi ht he h0 hlen hf hn H0 x Q q)
/-- a list of new lists -/
theorem lcF_read {bs : List β} {enc : β → PyData} {dss : β → List PyData} {Gd : β → L2.St → Hp → Prop} (h : JIx M X tg it σ H (bs.map enc)) (hl : bs.length ≤ 1000000) (hgt : TgOk M H σ g vs bs enc Gd) (hi : M.i H)
    (he : ∀ H1 b σ2, Xt M H H1 → b ∈ bs → Gd b σ2 H1 → ∀ (s0 : Shared) (H0 : Hp) (C : Addr) (cl : List (Str × Addr)) (fp : List Addr), JL M (X.blk s0 H0 scope (compEnvC scope cl C X.env) fp) elt σ2 H1 (dss b)) :
    ∀ H0, Xt M H H0 → ∀ Q : VK, (∀ p qs H2, Xt M H0 H2 → OLL M H0 H2 p qs (bs.map dss) → Q (.ref p) H2) → tLc (WI X tg it) g (BTs X scope []) (BE X scope elt) vs σ H0 Q := by
  intro H0 x Q q
  refine h H0 x _ fun J Kp H1 y ok k0 => ?_
  intro Dl hD
  have hm0 : ¬ M.m Dl := M.new ((x.trans y).inv hi) hD
  have hlenb : (bs.map enc).length = bs.length := List.length_map _
  refine ⟨fun i m H' => m = bs.length - i ∧ i ≤ bs.length ∧ Xt M H1 H' ∧ ∃ qs, OLL M H1 H' Dl qs ((bs.take i).map dss), ⟨bs.length, by simp, Nat.zero_le _, Xt.new hD, [], ⟨hD, fun q h => (by cases h), hm0, fun q h => (by cases h), upd_same, by simp, rfl, fun i q ds h => by simp at h⟩⟩, ?_⟩
  rintro i m H' ⟨rfl, hi', z, qs, o⟩
  have kp := ok.up _ _ z k0
  by_cases hlt : i < bs.length
  · refine .inr ⟨ok.goes i H' kp (by rw [hlenb]; exact hlt), fun H2 => Xt M H1 H2 ∧ ∃ qs, OLL M H1 H2 Dl qs ((bs.take (i + 1)).map dss), fun H2 p' => ⟨bs.length - (i + 1), by omega, rfl, hlt, p'⟩, fun v H2 yy => ?_⟩
    obtain ⟨rfl, d, hd, r⟩ := ok.yld i H' v H2 kp (by rw [hlenb]; exact hlt) yy
    have hb : bs[i]? = some bs[i] := by simp [hlt]
    rw [List.getElem?_map, hb] at hd
    have hd : enc bs[i] = d := Option.some.inj hd
    subst hd
    have hm : bs[i] ∈ bs := List.getElem_mem hlt
    refine hgt H2 bs[i] v _ ((x.trans y).trans z) hm r fun σ2 hw gd => ⟨hw, ?_⟩
    intro s0 H0' C cl fp
    refine jts_nil (M := M) H2 (Xt.refl H2) _ fun H3 t3 => ?_
    rw [if_pos rfl]
    intro s0 H0' C cl fp
    refine he H2 bs[i] σ2 ((x.trans y).trans z) hm gd s0 H0' C cl fp H3 t3 _ fun w ws H4 nw t4 ew rw' => ?_
    have x4 := (z.trans t3).trans t4
    have o4 := (o.up t3).up t4
    have nw1 : H1 w = none := z.free _ (t3.free _ nw)
    have mw : ¬ M.m w := M.new ((((x.trans y).trans z).trans t3).inv hi) nw
    have hne : w ≠ Dl := fun e => by
      rw [e] at nw
      have := (o.up t3).loc
      rw [nw] at this
      cases this
    have hwq : w ∉ qs := fun hw' => by
      obtain ⟨j, hj⟩ := List.mem_iff_getElem?.mp hw'
      have hj2 : j < ((bs.take i).map dss).length := by rw [← o.len]; exact (List.getElem?_eq_some_iff.mp hj).1
      obtain ⟨zs, e, _⟩ := (o.up t3).inn j w _ hj (List.getElem?_eq_getElem hj2)
      rw [nw] at e
      cases e
    refine ⟨_, o4.loc, ?_, x4.mut hD, qs ++ [w], ?_⟩
    · rw [List.length_map, o4.len, List.length_map, List.length_take]
      exact Nat.lt_of_lt_of_le (show _ < 1000001 by omega) (by decide)
    · have tm : Tm H4 (upd H4 Dl (.lst (qs.map V.ref ++ [.ref w]))) := Tm.lst o4.loc
      have hcon := List.nodup_cons.mp o4.nd
      refine ⟨hD, fun q' hq' => ?_, hm0, fun q' hq' => ?_, by rw [List.map_append]; exact upd_same, ?_, ?_, fun j q' ds h1 h2 => ?_⟩
      · rcases List.mem_append.mp hq' with e | e
        · exact o4.nq q' e
        · rw [List.mem_singleton.mp e]; exact nw1
      · rcases List.mem_append.mp hq' with e | e
        · exact o4.mq q' e
        · rw [List.mem_singleton.mp e]; exact mw
      · rw [List.nodup_cons]
        refine ⟨fun e => ?_, ?_⟩
        · rcases List.mem_append.mp e with e | e
          · exact hcon.1 e
          · exact hne (List.mem_singleton.mp e).symm
        · rw [List.nodup_append]
          exact ⟨hcon.2, by simp, fun a ha b hb e => by rw [List.mem_singleton.mp hb] at e; exact hwq (e ▸ ha)⟩
      · rw [take_snoc hb, List.map_append, List.length_append, List.length_append, o4.len]
        rfl
      · rw [take_snoc hb, List.map_append] at h2
        by_cases hj : j < qs.length
        · rw [List.getElem?_append_left hj] at h1
          rw [List.getElem?_append_left (by rw [← o4.len]; exact hj)] at h2
          obtain ⟨zs, e, r⟩ := o4.inn j q' ds h1 h2
          have hq1 : q' ≠ Dl := fun e => hcon.1 (e ▸ List.mem_of_getElem? h1)
          exact ⟨zs, (upd_ne hq1).trans e, RpL.tm tm _ r⟩
        · rw [List.getElem?_append_right (by omega)] at h1
          rw [List.getElem?_append_right (by rw [← o4.len]; omega), ← o4.len] at h2
          have hj0 : j - qs.length = 0 := by
            have := (List.getElem?_eq_some_iff.mp h1).1
            simp only [List.length_cons, List.length_nil] at this
            omega
          rw [hj0] at h1 h2
          cases h1
          cases h2
          exact ⟨ws, (upd_ne hne).trans ew, RpL.tm tm _ rw'⟩
  · have ei : i = bs.length := by omega
    subst ei
    refine .inl ⟨by have := ok.stops H' kp; rw [hlenb] at this; exact this, ?_⟩
    rw [List.take_length] at o
    exact q Dl qs H' (y.trans z) ⟨y.free _ o.np, fun q' hq' => y.free _ (o.nq q' hq'), o.mp, o.mq, o.loc, o.nd, o.len, o.inn⟩
theorem j_lcF {bs : List β} {enc : β → PyData} {dss : β → List PyData} {Gd : β → L2.St → Hp → Prop} {own : List (Str × Nat)} {pos : Pos} (hc : X.calm = true) (nd : X.N.Nodup) (ok : BlkOk X.N X.env.scope scope own)
    (hg : ∀ (s : Shared) (H : Hp) (C : Addr) (cl : List (Str × Addr)) (fp : List Addr), PG (X.blk s H scope (compEnvC scope cl C X.env) fp) tg g)
    (h : JIx M X tg it σ H (bs.map enc)) (hl : bs.length ≤ 1000000) (hgt : TgOk M H σ g (own.map (·.2)) bs enc Gd)
    (he : ∀ H1 b σ2, Xt M H H1 → b ∈ bs → Gd b σ2 H1 → ∀ (s0 : Shared) (H0 : Hp) (C : Addr) (cl : List (Str × Addr)) (fp : List Addr), JL M (X.blk s0 H0 scope (compEnvC scope cl C X.env) fp) elt σ2 H1 (dss b)) (hi : M.i H := by first | exact trivial | assumption)
    (hs : ∀ x, foldedSetIterable it X.env x = pure x := by intro _; rfl) : JLL M X (.ListComp elt [⟨tg, it, [], 0⟩] scope pos) σ H (bs.map dss) := fun H0 x Q q =>
  we_of (pe_lc hc nd pi_wi ok hg (fun s H C cl fp => ⟨fun pins s' σ H' Q I h => h s H C cl fp pins s' I⟩) (fun s H C cl fp => ⟨fun pins s' σ H' Q I h => h s H C cl fp pins s' I⟩) hs) (lcF_read h hl hgt hi he H0 x Q q)
theorem s_asgLcF {rest : List Stmt} {D : Ends} (i : Nat) {y : Str} {py : Pos} {bs : List β} {enc : β → PyData} {dss : β → List PyData} {Gd : β → L2.St → Hp → Prop} {own : List (Str × Nat)} {pos spos : Pos} (hc : X.calm = true) (nd : X.N.Nodup) (ok : BlkOk X.N X.env.scope scope own)
    (hg : ∀ (s : Shared) (H : Hp) (C : Addr) (cl : List (Str × Addr)) (fp : List Addr), PG (X.blk s H scope (compEnvC scope cl C X.env) fp) tg g)
    (h : JIx M X tg it σ H (bs.map enc)) (hl : bs.length ≤ 1000000) (hgt : TgOk M H σ g (own.map (·.2)) bs enc Gd)
    (he : ∀ H1 b σ2, Xt M H H1 → b ∈ bs → Gd b σ2 H1 → ∀ (s0 : Shared) (H0 : Hp) (C : Addr) (cl : List (Str × Addr)) (fp : List Addr), JL M (X.blk s0 H0 scope (compEnvC scope cl C X.env) fp) elt σ2 H1 (dss b)) (hi : M.i H := by first | exact trivial | assumption)
    (k : ∀ q qs H1, Xt M H H1 → OLL M H H1 q qs (bs.map dss) → WSs X rest D (σ.set i (some (.ref q))) H1)
    (hy : X.N[i]? = some y := by rfl) (hyl : X.env.scope.names.lookup y = some .local := by rfl)
    (hsw : swapsWith (.ListComp elt [⟨tg, it, [], 0⟩] scope pos) (some (.Name y py)) spos.line X.env = pure true := by exact sw_true rfl rfl rfl (by decide +kernel))
    (hs : ∀ x, foldedSetIterable it X.env x = pure x := by intro _; rfl) : WSs X (.Assign [.Name y py] (.ListComp elt [⟨tg, it, [], 0⟩] scope pos) spos :: rest) D σ H :=
  s_cons (ws_of (ps_setLc hc nd hy hyl hsw pi_wi ok hg (fun s H C cl fp => ⟨fun pins s' σ H' Q I h => h s H C cl fp pins s' I⟩) (fun s H C cl fp => ⟨fun pins s' σ H' Q I h => h s H C cl fp pins s' I⟩) hs)
    (lcF_read h hl hgt hi he H (Xt.refl H) _ fun q qs H1 x o => k q qs H1 x o))
theorem s_asgLcR {rest : List Stmt} {D : Ends} (i : Nat) {y : Str} {py : Pos} {bs : List β} {enc : β → PyData} {gg : γ → PyData} {I : Nat → List γ → Prop} {Pt : β → Bool → Prop} {Pe : β → γ → Prop} {Gd : β → L2.St → Hp → Prop} {own : List (Str × Nat)} {pos spos : Pos} (hc : X.calm = true) (nd : X.N.Nodup) (ok : BlkOk X.N X.env.scope scope own)
    (hg : ∀ (s : Shared) (H : Hp) (C : Addr) (cl : List (Str × Addr)) (fp : List Addr), PG (X.blk s H scope (compEnvC scope cl C X.env) fp) tg g)
    (h : JIx M X tg it σ H (bs.map enc)) (hl : bs.length ≤ 1000000) (hgt : TgOk M H σ g (own.map (·.2)) bs enc Gd)
    (ht : ∀ H1 b σ2, Xt M H H1 → b ∈ bs → Gd b σ2 H1 → JBTEs M X scope ifs σ2 H1 (Pt b)) (he : ∀ H1 b σ2, Xt M H H1 → b ∈ bs → Gd b σ2 H1 → JBK M X scope elt σ2 H1 (kX (Pe b) gg))
    (h0 : I 0 []) (hlen : ∀ i acc, I i acc → acc.length ≤ i) (hf : ∀ i b acc, bs[i]? = some b → I i acc → Pt b false → I (i + 1) acc) (hn : ∀ i b acc c, bs[i]? = some b → I i acc → Pt b true → Pe b c → I (i + 1) (acc ++ [c])) (hi : M.i H := by first | exact trivial | assumption)
    (k : ∀ q xs H1 l, H q = none → Xt M H H1 → H1 q = some (.lst xs) → RpL H1 xs (l.map gg) → I bs.length l → WSs X rest D (σ.set i (some (.ref q))) H1)
    (hy : X.N[i]? = some y := by rfl) (hyl : X.env.scope.names.lookup y = some .local := by rfl)
    (hsw : swapsWith (.ListComp elt [⟨tg, it, ifs, 0⟩] scope pos) (some (.Name y py)) spos.line X.env = pure true := by exact sw_true rfl rfl rfl (by decide +kernel))
    (hs : ∀ x, foldedSetIterable it X.env x = pure x := by intro _; rfl) : WSs X (.Assign [.Name y py] (.ListComp elt [⟨tg, it, ifs, 0⟩] scope pos) spos :: rest) D σ H :=
  s_cons (ws_of (ps_setLc hc nd hy hyl hsw pi_wi ok hg (fun s H C cl fp => ⟨fun pins s' σ H' Q I h => h s H C cl fp pins s' I⟩) (fun s H C cl fp => ⟨fun pins s' σ H' Q I h => h s H C cl fp pins s' I⟩) hs)
    (lcR_read h hl hgt hi ht he h0 hlen hf hn H (Xt.refl H) _ fun q xs H1 l n x e r hI => k q xs H1 l n x e r hI))
end
end K68

set_option Elab.async false
set_option linter.all false
set_option maxRecDepth 100000
set_option maxHeartbeats 1000000
/-! K68, text B18: placements, case_of, case_placements, case_options, all_channels, away_goals. -/
namespace K68
open PySem PySem.Spec L2
open PyProof.Rows hiding St
def dPl (p : Nat × Nat) : PyData := .tuple [dI p.1, dI p.2]
def Fab.dCase (F : Fab) : PyData := .tuple [F.dNet, F.dTb, F.dTb]
/-- {c: True ..} -/
def tD (ks : List Nat) : List (Key × V) := ks.map fun (c : Nat) => (Sum.inl (c : Int), V.bl true)
theorem putK_new {kvs : List (Key × V)} {c : Nat} {ks : List Nat} (h : kvs.map (·.1) = (castI ks).map Sum.inl) (hc : c ∉ ks) (v : V) : putK kvs (Sum.inl (c : Int)) v = kvs ++ [(Sum.inl (c : Int), v)] := by
  unfold putK
  rw [if_neg]
  intro z
  obtain ⟨kv, hk, hd⟩ := List.any_eq_true.mp z
  have hd := of_decide_eq_true hd
  have : kv.1 ∈ (castI ks).map Sum.inl := by rw [← h]; exact List.mem_map.mpr ⟨kv, hk, rfl⟩
  obtain ⟨i, hi, e⟩ := List.mem_map.mp this
  rw [hd] at e
  have e := Sum.inl.inj e
  rw [e] at hi
  exact hc (mem_castI.mp hi)
theorem tD_keys (ks : List Nat) : (tD ks).map (·.1) = (castI ks).map Sum.inl := by
  unfold tD castI
  rw [List.map_map, List.map_map]
  rfl
theorem putAll_tD : ∀ (l : List Nat), l.Nodup → putAll (castI l) = tD l := by
  have key : ∀ (l acc : List Nat), (acc ++ l).Nodup → (castI l).foldl (fun acc c => putK acc (Sum.inl c) (.bl true)) (tD acc) = tD (acc ++ l) := by
    intro l
    induction l with
    | nil => intro acc _; rw [List.append_nil]; rfl
    | cons c r ih =>
      intro acc h
      have hc : c ∉ acc := fun z => (List.nodup_append.mp h).2.2 c z c List.mem_cons_self rfl
      have e : tD acc ++ [(Sum.inl (c : Int), V.bl true)] = tD (acc ++ [c]) := by unfold tD; rw [List.map_append]; rfl
      show (castI r).foldl _ (putK (tD acc) (Sum.inl (c : Int)) (.bl true)) = _
      rw [putK_new (tD_keys acc) hc, e]
      have e2 : acc ++ c :: r = (acc ++ [c]) ++ r := by rw [List.append_assoc]; rfl
      rw [e2]
      exact ih (acc ++ [c]) (by rw [← e2]; exact h)
  intro l h
  exact key l [] h
section
variable {P : Program} {w : World} {K : PySem.W.Frag} {mg : Str → Option Value} {base : Heap} {f : Addr} {fd : FuncData} {tbs : List Addr} {cT PT : Addr}
def spPl : Sp := spL [] (ι := Fab) (fun F => F.Ok) (fun F => [kD F.d]) (fun F => F.pls.map dPl)
theorem fnPl (B : Blt mg) (F : Fun K "placements" "placements" (topS 2) f fd) (hm : mg "placements" = some (.ref f)) : FnK P w K mg base "placements" A2 1 spPl := by
  refine fn_l F hm sc2 (fun _ => rfl) (fun _ _ _ _ _ _ us hl => match us, hl with | [_], _ => rfl) fun cdv A outer s H vs Q E F hr hp _ hk hq => ?_
  have ok : F.Ok := hp
  have hq : RetL M0 (F.pls.map dPl) H Q := hq
  obtain ⟨a, rfl, ha⟩ := k1 hk
  have ha : kD F.d H a := ha
  have h6 := ok.m6
  have h4 := ok.n4
  refine s_asgG (M := M0) (pg_tup rfl (pgs_cons (pg_name (i := 1) sc2.nd rfl (Or.inl rfl)) (pgs_cons (pg_name (i := 2) sc2.nd rfl (Or.inr rfl)) pgs_nil))) (j_var 0 rfl ha) fun v H1 x1 k1 => g_pair (d1 := F.dNet) (d2 := F.dTb) k1 fun v1 v2 r1 r2 => ?_
  have r1 : kD F.dNet H1 v1 := r1
  have r2 : kD F.dTb H1 v2 := r2
  refine s_asgL (M := M0) 3 sc2.nd j_lst0 fun pf xf H2 n2 x2 e2 rf => ?_
  have x02 := x1.trans x2
  have nf : H pf = none := x1.free _ n2
  refine s_for (M := M0) (pg_name (i := 4) sc2.nd rfl (Or.inr rfl)) (ji_rng (n := F.m) rfl B.range (j_lenCh B (j_n1 (j_var 1 rfl (Mn.mono x2 r1)))) (by omega)) rfl fun H3 x3 => ?_
  have x03 := x02.trans x3
  refine ⟨fun j σ' H' => ∃ o4 o5 xs, σ' = [some a, some v1, some v2, some (.ref pf), o4, o5, none] ∧ OL H' pf xs (((List.range j).flatMap fun c => ((List.range F.n).filter fun d => decide (c ∈ F.op (F.C c).u d)).map fun d => (c, d)).map dPl) ∧ Xt M0 H H' ∧ Tm H3 H', ⟨none, none, xf, rfl, OL.up ⟨e2, rf⟩ x3, x03, Tm.refl _⟩, fun j σ' H' ⟨_, _, _, _, _, _, t⟩ => t, ?_, ?_⟩
  · rintro j dd v4 σ' H4 hj rv ⟨o4, o5, xs, rfl, of4, x4, t4⟩
    have hj' : j < F.m := by
      have := (List.getElem?_eq_some_iff.mp hj).1
      rw [rangeD_len] at this; exact this
    rw [rangeD_at hj'] at hj
    cases hj
    have r14 : kD F.dNet H4 v1 := Rp.tm ((x2.trans x3).tm.trans t4) _ r1
    have r24 : kD F.dTb H4 v2 := Rp.tm ((x2.trans x3).tm.trans t4) _ r2
    have rv : kI (j : Int) H4 v4 := rv
    show WSs _ _ _ _ _
    refine s_asg (M := M0) 5 sc2.nd (j_c0 (j_ch hj' (j_n1 (j_var 1 rfl r14)) (j_var 4 rfl rv))) fun v5 H5 x5 k5 => ?_
    have k5 : kI ((F.C j).u : Int) H5 v5 := k5
    have of5 := of4.up x5
    refine s_extend (M := M0) 3 (ds := (((List.range F.n).filter fun d => decide (j ∈ F.op (F.C j).u d)).map fun d => dPl (j, d))) rfl of5.1 (JL.k (j_lc (bs := List.range F.n) (enc := dI) rfl sc2.nd bk2_0 (fun s H C cl fp => pg_name sc2.nd (i := 6) rfl (Or.inl rfl)) (JI.x (ji_rng rfl B.range (j_n0 (j_var 1 rfl (Mn.mono x5 r14))) (by omega))) ?_ (tg_name fun v => rfl) trivial (fun H9 c' σ2 x9 hm gd => jbts_one ?_) (fun H9 c' σ2 x9 hm gd _ => ?_))) ?_ id fun ys H6 x6 ry e6 => s_nil ⟨some v4, some v5, xs ++ ys, rfl, ?_, (x4.trans (x5.trans x6)).mut nf, (t4.trans (x5.trans x6).tm).trans (Tm.lst e6)⟩
    · rw [List.length_range]; omega
    · obtain ⟨v9, hv9, rfl⟩ := gd
      intro s0 H0 C cl fp
      have hd := List.mem_range.mp hm
      exact jt_cmp ok_inN (j_var 4 rfl (Mn.mono (x5.trans x9) rv)) (j_op2 ok (C_u ok hj') hd (j_var 2 rfl (Mn.mono (x5.trans x9) r24)) (j_var 5 rfl (Mn.mono (M := M0) x9 k5)) (j_var 6 rfl (K := kI (c' : Int)) hv9))
    · obtain ⟨v9, hv9, rfl⟩ := gd
      intro s0 H0 C cl fp
      exact j_tup2 (j_var 4 rfl (Mn.mono (x5.trans x9) rv)) (j_var 6 rfl (K := kI (c' : Int)) hv9)
    · rw [of5.len, List.length_map, List.length_map]
      have h1 := flat_le (f := fun c => ((List.range F.n).filter fun d => decide (c ∈ F.op (F.C c).u d)).map fun d => (c, d)) (n := 4) (l := List.range j) fun c _ => by
        rw [List.length_map]
        have := List.length_filter_le (fun d => decide (c ∈ F.op (F.C c).u d)) (List.range F.n)
        rw [List.length_range] at this
        omega
      rw [List.length_range] at h1
      have h2 := List.length_filter_le (fun d => decide (j ∈ F.op (F.C j).u d)) (List.range F.n)
      rw [List.length_range] at h2
      omega
    · have := (of5.up x6).ext ry
      rw [List.range_succ, List.flatMap_append, List.flatMap_singleton, List.map_append, List.map_map]
      exact this
  · rintro σ' H4 ⟨o4, o5, xs, rfl, of4, x4, t4⟩
    refine s_ret (M := M0) (K := kE (.ref pf)) (j_var 3 rfl rfl) fun v H6 x6 k => ?_
    have k : v = .ref pf := k
    subst k
    have o6 := of4.up x6
    refine hq pf xs H6 nf (x4.trans x6) o6.1 ?_
    have := o6.2
    rw [rangeD_len] at this
    exact this
def spCo : Sp := spK [] (ι := Fab) (fun F => True) (fun F => [kD F.d]) (fun F => kD F.dCase)
theorem fnCo (F : Fun K "case_of" "case_of" (topS 29) f fd) (hm : mg "case_of" = some (.ref f)) : FnK P w K mg base "case_of" A29 1 spCo := by
  refine fn_k F hm sc29 (fun _ => rfl) (fun _ _ _ _ _ _ us hl => match us, hl with | [_], _ => rfl) fun cdv A outer s H vs Q E F hr hp _ hk hq => ?_
  obtain ⟨a, rfl, ha⟩ := k1 hk
  have ha : kD F.d H a := ha
  exact s_ret (M := M0) (j_tup3 (j_f0 (j_var 0 rfl ha)) (j_f1 (j_var 0 rfl ha)) (j_f1 (j_var 0 rfl ha))) fun v H1 x k => hq v H1 x k
def spCp : Sp := spL [] (ι := Fab) (fun F => F.Ok) (fun F => [kD F.dCase]) (fun F => F.pls.map dPl)
theorem fnCp (F : Fun K "case_placements" "case_placements" (topS 30) f fd) (hm : mg "case_placements" = some (.ref f)) (fP : FnK P w K mg base "placements" A2 1 spPl) : FnK P w K mg base "case_placements" A30 2 spCp := by
  refine fn_l F hm sc30 (fun _ => rfl) (fun _ _ _ _ _ _ us hl => match us, hl with | [_], _ => rfl) fun cdv A outer s H vs Q E F hr hp _ hk hq => ?_
  obtain ⟨a, rfl, ha⟩ := k1 hk
  have ok : F.Ok := hp
  have ha : kD F.dCase H a := ha
  exact s_retL (M := M0) (j_defL F fP hr ok no_tabs (ja_cons (K := kD F.d) (j_tup2 (j_item (i := 0) rfl (j_var 0 rfl ha) j_int) (j_item (i := 1) rfl (j_var 0 rfl ha) j_int)) ja_nil)) fun p xs H1 n x e r => hq p xs H1 n x e r
def spCz : Sp := spK [] (ι := Fab × Nat × Nat) (fun i => i.1.Ok ∧ i.2.1 < i.1.m ∧ i.2.2 < i.1.n) (fun i => [kD i.1.dCase, kI (i.2.1 : Int), kI (i.2.2 : Int)]) (fun i => kD (dNs (i.1.op (i.1.C i.2.1).v i.2.2)))
theorem j_k0 {M : Md} {X : Cx} {F : Fab} {a : Expr} {σ : L2.St} {H : Hp} {p pos : Pos} (h : JK M X a σ H (kD F.dCase)) {k : Nat} : JK M X (.Subscript a (.Constant (.int 0) k p) pos) σ H (kD F.dNet) := j_item (i := 0) rfl h j_int
theorem fnCz (F : Fun K "case_options" "case_options" (topS 31) f fd) (hm : mg "case_options" = some (.ref f)) : FnK P w K mg base "case_options" A31 1 spCz := by
  refine fn_k F hm sc31 (fun _ => rfl) (fun _ _ _ _ _ _ us hl => match us, hl with | [_, _, _], _ => rfl) fun cdv A outer s H vs Q E i hr hp _ hk hq => ?_
  obtain ⟨F, c0, d0⟩ := i
  obtain ⟨ok, hc0, hd0⟩ := hp
  have ok : F.Ok := ok
  have hc0 : c0 < F.m := hc0
  have hd0 : d0 < F.n := hd0
  obtain ⟨a, b, c, rfl, ha, hb, hc⟩ := k3 hk
  have ha : kD F.dCase H a := ha
  have hb : kI (c0 : Int) H b := hb
  have hc : kI (d0 : Int) H c := hc
  exact s_ret (M := M0) (j_op2 ok (C_v ok hc0) hd0 (j_item (i := 2) rfl (j_var 0 rfl ha) j_int) (j_c1 (j_ch hc0 (j_n1 (j_k0 (j_var 0 rfl ha))) (j_var 1 rfl hb))) (j_var 2 rfl hc)) fun v H1 x k => hq v H1 x k
/-- a dict, at its own place -/
def kDk (M : Md) (kvs : List (Key × V)) : Kn := fun H v => ∃ p, v = .ref p ∧ H p = some (.dK kvs) ∧ ¬ M.m p
instance (M : Md) (kvs : List (Key × V)) : Mn M (kDk M kvs) := ⟨fun e ⟨p, a, b, c⟩ => ⟨p, a, e.keep _ _ b (nt_dK _) c, c⟩⟩
theorem kDk.k {M : Md} {kvs : List (Key × V)} {H : Hp} {v : V} (h : kDk M kvs H v) : kK M kvs H v := by
  obtain ⟨p, a, b, c⟩ := h
  exact ⟨p, a, .inl b, c⟩
def spAc : Sp := spK [] (ι := Fab) (fun F => F.Ok) (fun F => [kD F.dCase]) (fun F => kDk M0 (tD (List.range F.m)))
theorem fnAc (B : Blt mg) (F : Fun K "all_channels" "all_channels" (topS 36) f fd) (hm : mg "all_channels" = some (.ref f)) : FnK P w K mg base "all_channels" A36 1 spAc := by
  refine fn_k F hm sc36 (fun _ => rfl) (fun _ _ _ _ _ _ us hl => match us, hl with | [_], _ => rfl) fun cdv A outer s H vs Q E F hr ok _ hk hq => ?_
  have ok : F.Ok := ok
  have hq : RetK M0 (kDk M0 (tD (List.range F.m))) H Q := hq
  obtain ⟨a, rfl, ha⟩ := k1 hk
  have h6 := ok.m6
  refine s_retDK (M := M0) (kvs := tD (List.range F.m)) ?_ fun p H1 n x e => hq _ H1 x ⟨p, rfl, e, id⟩
  rw [← putAll_tD _ List.nodup_range]
  have e0 : castI (List.range F.m) = ((List.range F.m).filter fun _ => true).map fun (n : Nat) => (n : Int) := by rw [filter_T]; rfl
  rw [e0]
  refine j_dc (bs := List.range F.m) (enc := dI) (gk := fun (n : Nat) => (n : Int)) (f := fun _ => true) rfl sc36.nd bk36_0 (fun s H C cl fp => pg_name sc36.nd (i := 1) rfl (Or.inl rfl)) (JI.x (ji_rng rfl B.range (j_lenCh B (j_n1 (j_k0 (j_var 0 rfl ha)))) (by omega))) (by rw [List.length_range]; omega) (tg_name fun v => rfl) trivial (fun H1 b' σ2 x hb gd => jbts_nil) (fun H1 b' σ2 x hb gd _ => ?_) (fun H1 σ2 s0 H0 C cl fp => j_bl)
  obtain ⟨v, hv, rfl⟩ := gd
  intro s0 H0 C cl fp
  exact j_var 1 rfl (K := kI (b' : Int)) hv
end
end K68

set_option Elab.async false
set_option linter.all false
set_option maxRecDepth 100000
set_option maxHeartbeats 1000000
/-! K68, text B19: away_goals, goal_within. -/
namespace K68
open PySem PySem.Spec L2
open PyProof.Rows hiding St
theorem gls_step {F : Fab} {ps : List (Nat × Nat)} {j : Nat} {p : Nat × Nat} (h : ps[j]? = some p) (c : Nat) : F.gls (ps.take (j + 1)) c = F.gls (ps.take j) c ++ (if F.gq c p = true then [F.gv p] else []) := fm_step h
theorem gls_len {F : Fab} (ok : F.Ok) (j c : Nat) : (F.gls (F.pls.take j) c).length ≤ 24 := by
  unfold Fab.gls
  rw [List.length_map]
  have h1 := List.length_filter_le (F.gq c) (F.pls.take j)
  rw [List.length_take] at h1
  have := pls_len ok
  omega
def Fab.gss (F : Fab) (ps : List (Nat × Nat)) : List (List PyData) := (List.range F.m).map fun c => (F.gls ps c).map dPr
theorem gss_get {F : Fab} {ps : List (Nat × Nat)} {c : Nat} (h : c < F.m) : (F.gss ps)[c]? = some ((F.gls ps c).map dPr) := by
  unfold Fab.gss
  rw [List.getElem?_map, List.getElem?_range h]
  rfl
section
variable {P : Program} {w : World} {K : PySem.W.Frag} {mg : Str → Option Value} {base : Heap} {f : Addr} {fd : FuncData} {tbs : List Addr} {cT PT : Addr}
def spAg : Sp := spK [] (ι := Fab) (fun F => F.Ok) (fun F => [kD F.dCase]) (fun F => kLL M0 (F.gss F.pls))
theorem fnAg (B : Blt mg) (F : Fun K "away_goals" "away_goals" (topS 32) f fd) (hm : mg "away_goals" = some (.ref f)) (fC : FnK P w K mg base "case_placements" A30 2 spCp) (fZ : FnK P w K mg base "case_options" A31 1 spCz) : FnK P w K mg base "away_goals" A32 3 spAg := by
  refine fn_k F hm sc32 (fun _ => rfl) (fun _ _ _ _ _ _ us hl => match us, hl with | [_], _ => rfl) fun cdv A outer s H vs Q E F hr hp _ hk hq => ?_
  have ok : F.Ok := hp
  have hq : RetK M0 (kLL M0 (F.gss F.pls)) H Q := hq
  obtain ⟨a, rfl, ha⟩ := k1 hk
  have ha : kD F.dCase H a := ha
  have h6 := ok.m6
  refine s_asgLcF (M := M0) 1 (bs := F.ch) (enc := dCh) (dss := fun _ => []) rfl sc32.nd bk32_0 (fun s H C cl fp => pg_name (i := 4) sc32.nd rfl (Or.inl rfl)) (JI.x (ji_tup (j_n1 (j_k0 (j_var 0 rfl ha))))) (by show F.m ≤ 1000000; omega) (tg_name fun v => rfl) (fun H1 b σ2 x hb gd s0 H0 C cl fp => j_lst0) trivial fun pf qs H1 x1 o1 => ?_
  have o1 : OLL M0 H H1 pf qs (F.gss (F.pls.take 0)) := by
    have e : F.gss (F.pls.take 0) = F.ch.map fun _ => [] := by
      unfold Fab.gss Fab.gls
      rw [List.take_zero]
      refine List.ext_getElem (by rw [List.length_map, List.length_map, List.length_range]; rfl) fun i h1 h2 => ?_
      rw [List.getElem_map, List.getElem_map]
      rfl
    rw [e]
    exact o1
  refine s_forN (M := M0) (pg_tup rfl (pgs_cons (pg_name (i := 2) sc32.nd rfl (Or.inl rfl)) (pgs_cons (pg_name (i := 3) sc32.nd rfl (Or.inl rfl)) pgs_nil))) (j_defL F fC hr ok no_tabs (ja_cons (j_var 0 rfl (Mn.mono x1 ha)) ja_nil)) rfl trivial fun p ys H2 n2 x2 e2 r2 => ?_
  refine ⟨fun j σ' H' => ∃ o2 o3, σ' = [some a, some (.ref pf), o2, o3, none] ∧ OLL M0 H H' pf qs (F.gss (F.pls.take j)) ∧ H' p = some (.lst ys) ∧ Xt M0 H H' ∧ Tm H2 H', ⟨none, none, rfl, o1.up x2, e2, x1.trans x2, Tm.refl _⟩, fun j σ' H' ⟨_, _, _, _, e, _, t⟩ => ⟨t, e⟩, ?_, ?_⟩
  · rintro j dd v σ' H3 hj rv ⟨o2, o3, rfl, o, e3, x3, t3⟩
    have hj0 : (F.pls.map dPl)[j]? = some dd := hj
    rw [List.getElem?_map] at hj0
    obtain ⟨pj, hj1, rfl⟩ := Option.map_eq_some_iff.mp hj0
    obtain ⟨hc, hd, hin⟩ := pls_mem.mp (List.mem_of_getElem? hj1)
    refine g_pair rv fun v1 v2 r1 r2 => ?_
    have r1 : kI (pj.1 : Int) H3 v1 := r1
    have r2 : kI (pj.2 : Int) H3 v2 := r2
    have hst := gls_step (F := F) hj1
    show WSs _ _ _ _ _
    refine s_when (M := M0) (jt_cmp ok_neI (j_c1 (j_ch hc (j_n1 (j_k0 (j_var 0 rfl (Mn.mono x3 ha)))) (j_var 2 rfl r1))) (j_var 3 rfl r2)) (fun q H4 x4 => ?_) fun q H4 x4 => ?_
    · have hne : (F.C pj.1).v ≠ pj.2 := fun z => by rw [z, decide_eq_true rfl] at q; cases q
      have o4 := o.up x4
      obtain ⟨q1, xs, hq1, he1, hr1, hm1, hn1⟩ := o4.get (gss_get hc)
      have x34 := x3.trans x4
      have hqp : q1 ≠ p := fun z => by
        subst z
        obtain ⟨zs, ez, _⟩ := o1.inn pj.1 q1 _ hq1 (gss_get hc)
        rw [n2] at ez
        cases ez
      refine s_appO (M := M0) (K := kD (dPr (F.gv pj))) (JK.imp (j_ix (ix_own (p := pf) (xs := qs.map V.ref) (i := (pj.1 : Int)) (v := .ref q1) (atI_nat (by rw [List.getElem?_map, hq1]; rfl))) (j_var 1 rfl o4.own) (j_var 2 rfl (Mn.mono (M := M0) x4 r1))) fun H v h => h) he1 (j_tup2 (j_var 3 rfl (Mn.mono (M := M0) x4 r2)) (j_def (F, pj.1, pj.2) fZ (hr.mono (by decide : 1 ≤ 2)) ⟨ok, hc, hd⟩ no_tabs (ja_cons (j_var 0 rfl (Mn.mono x34 ha)) (ja_cons (j_var 2 rfl (Mn.mono (M := M0) x4 r1)) (ja_cons (j_var 3 rfl (Mn.mono (M := M0) x4 r2)) ja_nil))))) ?_ id fun v5 H5 x5 k5 e5 => s_nil (s_nil ⟨some v1, some v2, rfl, ?_, ?_, (x34.trans x5).mut hn1, ((t3.trans x4.tm).trans x5.tm).trans (Tm.lst e5)⟩)
      · rw [hr1.length, List.length_map]
        have := gls_len ok j pj.1
        omega
      · have hp2 := (o4.up x5).put (i := pj.1) (ds := (F.gls (F.pls.take j) pj.1).map dPr ++ [dPr (F.gv pj)]) hq1 e5 ((RpL.tm x5.tm _ hr1).app (.cons k5 .nil))
        have e : (F.gss (F.pls.take j)).set pj.1 ((F.gls (F.pls.take j) pj.1).map dPr ++ [dPr (F.gv pj)]) = F.gss (F.pls.take (j + 1)) := by
          unfold Fab.gss
          refine List.ext_getElem (by rw [List.length_set, List.length_map, List.length_map]) fun i h1 h2 => ?_
          rw [List.getElem_set, List.getElem_map, List.getElem_map, List.getElem_range, hst i]
          by_cases hi : pj.1 = i
          · rw [if_pos hi]
            subst hi
            have : F.gq pj.1 pj = true := by unfold Fab.gq; rw [decide_eq_true rfl, decide_eq_true hne]; rfl
            rw [if_pos this, List.map_append]
            rfl
          · rw [if_neg hi]
            have : F.gq i pj = false := by unfold Fab.gq; rw [decide_eq_false hi]; rfl
            rw [this, if_neg Bool.false_ne_true, List.append_nil]
        rw [e] at hp2
        exact hp2
      · rw [upd_ne hqp.symm]
        exact (x4.trans x5).keep _ _ e3 (nt_lst _) id
    · have he : (F.C pj.1).v = pj.2 := Classical.byContradiction fun z => by
        rw [decide_eq_false (fun z' => z (by omega))] at q
        cases q
      have e : F.gss (F.pls.take (j + 1)) = F.gss (F.pls.take j) := by
        unfold Fab.gss
        refine List.map_congr_left fun i _ => ?_
        rw [hst i]
        have h2 : decide ((F.C pj.1).v ≠ pj.2) = false := decide_eq_false (fun z => z he)
        have : F.gq i pj = false := by unfold Fab.gq; rw [h2, Bool.and_false]
        rw [this, if_neg Bool.false_ne_true, List.append_nil]
      exact s_nil ⟨some v1, some v2, rfl, by rw [e]; exact o.up x4, x4.keep _ _ e3 (nt_lst _) id, x3.trans x4, t3.trans x4.tm⟩
  · rintro σ' H3 ⟨o2, o3, rfl, o, e3, x3, t3⟩
    rw [List.length_map, List.take_length] at o
    exact s_ret (M := M0) (j_var 1 rfl o.k) fun v H4 x4 k => hq v H4 (x3.trans x4) k
/-- whole numbers as data, or None -/
def dO : Option Nat → PyData
  | some d => dI d
  | none => .none
def spGw (tbs : List Addr) : Sp := spK tbs (ι := List Pr × List Nat) (fun i => i.1.length ≤ 1000) (fun i => [kL M0 (i.1.map dPr), kK M0 (tD i.2)]) (fun i => kD (dO (gw i.1 i.2)))
theorem hasK_tD (ks : List Nat) (c : Nat) : hasK (tD ks) (c : Int) = decide (c ∈ ks) := by
  unfold hasK
  have e : ((tD ks).any fun kv => decide (kv.1 = Sum.inl (c : Int))) = ((tD ks).map (·.1)).any fun k => decide (k = Sum.inl (c : Int)) := by rw [List.any_map]; rfl
  rw [← valV_any, e, tD_keys, Bool.eq_iff_iff, List.any_eq_true, decide_eq_true_eq]
  constructor
  · rintro ⟨k, hk, hd⟩
    obtain ⟨i, hi, rfl⟩ := List.mem_map.mp hk
    have := Sum.inl.inj (of_decide_eq_true hd)
    rw [this] at hi
    exact mem_castI.mp hi
  · intro hc
    exact ⟨_, List.mem_map.mpr ⟨_, mem_castI.mpr hc, rfl⟩, decide_eq_true rfl⟩
theorem fnGw (B : Blt mg) (F : FunT K "goal_within" "goal_within" (topS 34) f fd cT) (hm : mg "goal_within" = some (.ref f)) (TB : GxR.TabB base mg cT PT) (hPT : PT ∈ tbs) : FnK P w K mg base "goal_within" A34 3 (spGw tbs) := by
  refine fn_kT F hm sc34 (fun _ => rfl) (fun _ _ _ _ _ _ us hl => match us, hl with | [_, _], _ => rfl) fun A outer s H vs Q E i hr hp ht hk hq => ?_
  obtain ⟨g, ks⟩ := i
  have hq : RetK M0 (kD (dO (gw g ks))) H Q := hq
  obtain ⟨a, b, rfl, ha, hb⟩ := k2 hk
  have ha : kL M0 (g.map dPr) H a := ha
  have hb : kK M0 (tD ks) H b := hb
  have hlen : g.length ≤ 1000 := hp
  have hu := hu_of hr
  refine s_forL (M := M0) (pg_tup rfl (pgs_cons (pg_name (i := 2) sc34.nd rfl (Or.inl rfl)) (pgs_cons (pg_name (i := 3) sc34.nd rfl (Or.inl rfl)) pgs_nil))) (jil_of (j_var 0 rfl ha)) rfl fun p xs H1 x1 e1 r1 => ?_
  refine ⟨fun j σ' H' => ∃ o2 o3, σ' = [some a, some b, o2, o3, none] ∧ (∀ p ∈ g.take j, (p.2.all fun c => decide (c ∈ ks)) = false) ∧ H' p = some (.lst xs) ∧ Xt M0 H H' ∧ Tm H1 H', ⟨none, none, rfl, fun p hp => (by rw [List.take_zero] at hp; cases hp), e1, x1, Tm.refl _⟩, fun j σ' H' ⟨_, _, _, _, e, _, t⟩ => ⟨t, e⟩, ?_, ?_⟩
  · rintro j dd v σ' H2 hj rv ⟨o2, o3, rfl, hn, e2, x2, t2⟩
    have hj0 : (g.map dPr)[j]? = some dd := hj
    rw [List.getElem?_map] at hj0
    obtain ⟨pj, hj1, rfl⟩ := Option.map_eq_some_iff.mp hj0
    refine g_pair rv fun v1 v2 r1 r2 => ?_
    have r1 : kI (pj.1 : Int) H2 v1 := r1
    have r2 : kD (dNs pj.2) H2 v2 := r2
    show WSs _ _ _ _ _
    refine s_when (M := M0) (t := pj.2.all fun c => decide (c ∈ ks)) (jt_val (j_all1 (k := 1) (bs := pj.2) (enc := dI) (t := fun c => decide (c ∈ ks)) hr rfl B.all TB rfl ⟨bk34_0, rfl, by decide +kernel, rfl⟩ sc34.nd (x2.tab _ (ht _ hPT)) (ji_tup (j_var 3 rfl r2)).x (tg_name fun v => rfl)
        (fun s0 H0 cl C code bi fp A' pn => pg_name sc34.nd (i := 4) rfl (Or.inl rfl)) (fun H3 c' σ2 x3 hmem gd => ?_) (hb := bt_all))) (fun q H3 x3 => ?_) fun q H3 x3 => ?_
    · obtain ⟨v9, hv9, rfl⟩ := gd
      intro s0 H0 cl C code bi fp A' pn hrm
      rw [← hasK_tD]
      exact j_cmp (ok_inD (kvs := tD ks) (by have := hrm.un; show A'.units + 1 < cLine; omega)) (j_var 4 rfl (K := kI (c' : Int)) hv9) (j_var 1 rfl (Mn.mono (x2.trans x3) hb))
    · have eg : gw g ks = some pj.1 := by
        unfold gw
        have hj2 := List.getElem?_eq_some_iff.mp hj1
        have : g.find? (fun p => p.2.all fun c => decide (c ∈ ks)) = some pj := by
          rw [List.find?_eq_some_iff_append]
          refine ⟨q, g.take j, g.drop (j + 1), ?_, fun p hp => by rw [hn p hp]; rfl⟩
          rw [← hj2.2, List.getElem_cons_drop, List.take_append_drop]
        rw [this]
        rfl
      rw [eg] at hq
      exact s_ret (M := M0) (K := kI (pj.1 : Int)) (j_var 2 rfl (Mn.mono (M := M0) x3 r1)) fun v H4 x4 k => hq v H4 ((x2.trans x3).trans x4) k
    · refine s_nil ⟨some v1, some v2, rfl, fun p hp => ?_, x3.keep _ _ e2 (nt_lst _) id, x2.trans x3, t2.trans x3.tm⟩
      rw [take_snoc hj1] at hp
      rcases List.mem_append.mp hp with h | h
      · exact hn p h
      · rw [List.mem_singleton.mp h]; exact q
  · rintro σ' H2 ⟨o2, o3, rfl, hn, e2, x2, t2⟩
    have eg : gw g ks = none := by
      unfold gw
      rw [List.length_map, List.take_length] at hn
      rw [Option.map_eq_none_iff, List.find?_eq_none]
      exact fun p hp => by rw [hn p hp]; exact Bool.false_ne_true
    rw [eg] at hq
    exact s_ret (M := M0) j_non fun v H3 x3 k => hq v H3 (x2.trans x3) k
end
end K68

set_option Elab.async false
set_option linter.all false
set_option maxRecDepth 100000
set_option maxHeartbeats 1000000
/-! K68, text B20: staged. -/
namespace K68
open PySem PySem.Spec L2
open PyProof.Rows hiding St
theorem fil_nil (ks : List Nat) : (ks.filter fun x => decide (x ∉ ([] : List Nat))) = ks := List.filter_eq_self.mpr fun x _ => decide_eq_true (fun z => nomatch z)
theorem memf {α : Type} {p : α → Bool} {l : List α} {x : α} (h : x ∈ l.filter p) : x ∈ l := (List.mem_filter.mp h).1
theorem putK_le (c : List (Key × V)) (k : Key) (x : V) : (putK c k x).length ≤ c.length + 1 := by
  unfold putK
  split
  · rw [List.length_map]; omega
  · rw [List.length_append]; exact Nat.le_refl _
theorem fil_step (ks l : List Nat) (c : Nat) : (ks.filter fun x => decide (x ∉ l ++ [c])) = (ks.filter fun x => decide (x ∉ l)).filter fun x => decide (x ≠ c) := by
  rw [List.filter_filter]
  refine List.filter_congr fun x _ => ?_
  rw [Bool.eq_iff_iff, Bool.and_eq_true, decide_eq_true_eq, decide_eq_true_eq, decide_eq_true_eq, List.mem_append, List.mem_singleton]
  exact ⟨fun h => ⟨fun z => h (.inr z), fun z => h (.inl z)⟩, fun ⟨h1, h2⟩ z => z.elim h2 h1⟩
theorem isNd_dO (o : Option Nat) : isNd (dO o) = o.isNone := by cases o <;> rfl
theorem tD_drop (ks : List Nat) (c : Nat) : dropK (tD ks) (Sum.inl (c : Int)) = tD (ks.filter fun x => decide (x ≠ c)) := by
  unfold dropK tD
  rw [List.filter_map]
  congr 1
  refine List.filter_congr fun x _ => ?_
  show decide ((Sum.inl (x : Int) : Key) ≠ Sum.inl (c : Int)) = decide (x ≠ c)
  refine decide_eq_decide.mpr ⟨fun h z => h (by rw [z]), fun h z => h (by have := Sum.inl.inj z; omega)⟩
def kPair (K1 K2 : Kn) : Kn := fun H v => ∃ p a b, v = .ref p ∧ H p = some (.tup [a, b]) ∧ K1 H a ∧ K2 H b
instance (M : Md) (K1 K2 : Kn) [Mn M K1] [Mn M K2] : Mn M (kPair K1 K2) := ⟨fun e ⟨p, a, b, h1, h2, h3, h4⟩ => ⟨p, a, b, h1, e.tm _ _ h2, Mn.mono e h3, Mn.mono e h4⟩⟩
/-- stages: numbers for all that have gone -/
def kSt (m : Nat) (G : List Nat) : Kn := fun H v => ∃ st, (∀ c, c < m → c ∉ G → ∃ n : Nat, valV st (Sum.inl (c : Int)) = some (.int (n : Int))) ∧ kDk M0 st H v
instance (m : Nat) (G : List Nat) : Mn M0 (kSt m G) := ⟨fun e ⟨st, h1, h2⟩ => ⟨st, h1, Mn.mono e h2⟩⟩
section
variable {M : Md} {X : Cx} {σ : L2.St} {H : Hp} {a b e : Expr} {K1 K2 K : Kn} {pos : Pos} {D : Ends} {rest : List Stmt}
theorem j_pair {k : Nat} [Mn M K1] [Mn M K2] (h1 : JK M X a σ H K1) (h2 : JK M X b σ H K2) (hs : starEach [a, b] X.env = (false, eval a X.env) :: starEach [b] X.env := by rfl) (hs1 : starEach [b] X.env = (false, eval b X.env) :: starEach [] X.env := by rfl) : JK M X (.Tuple [a, b] k pos) σ H (kPair K1 K2) := fun H1 x Q q =>
  we_of (pe_tup pa_wa) (ja_cons h1 (ja_cons h2 ja_nil hs1) hs H1 x _ fun vs H2 y k => by
    obtain ⟨v, w, rfl, r1, r2⟩ := k2 k
    refine ⟨show 2 ≤ sizeLine by decide, fun p hp => q _ _ (y.trans (Xt.new hp)) ⟨p, v, w, rfl, upd_same, Mn.mono (Xt.new (M := M) hp) r1, Mn.mono (Xt.new (M := M) hp) r2⟩⟩)
theorem j_dct0 : JDK M X (.Dict [] [] pos) σ H [] := fun H1 x Q q => we_of pe_dnewK fun p hp => q p _ hp (Xt.new hp) upd_same
theorem g_pairK {K' : PySem.W.Frag} {i j : Nat} {v : V} {Q : L2.St → Hp → Prop} (h : kPair K1 K2 H v) (q : ∀ v1 v2, K1 H v1 → K2 H v2 → Q ((σ.set i (some v1)).set j (some v2)) H) :
    gTup K' 2 (gCons (gName i) (gCons (gName j) gNil)) v σ H Q := by
  obtain ⟨p, a, b, rfl, ex, r1, r2⟩ := h
  exact ⟨p, _, rfl, SqT.of ex, rfl, _, _, rfl, _, _, rfl, rfl, q _ _ r1 r2⟩
theorem ix_pair1 : IxK M X (kPair K1 K2) (kI 1) K2 := ⟨_, ix_tup, fun H x y Q a b q => by
  obtain ⟨p, u, v, rfl, e, r1, r2⟩ := a
  exact ⟨p, _, 1, v, rfl, kI_eq b, SqT.of e, rfl, q v H (Xt.refl H) r2⟩⟩
theorem s_augAdd (i : Nat) {x : Str} {p : Pos} {v : V} {n m : Int} (nd : X.N.Nodup) (hs : σ[i]? = some (some v)) (hv : kI n H v) (h : JK M X e σ H (kI m)) (k : ∀ w H1, Xt M H H1 → kI (n + m) H1 w → WSs X rest D (σ.set i (some w)) H1) (hi : X.N[i]? = some x := by rfl) (hx : Loc X.env.scope x := by first | exact Or.inl rfl | exact Or.inr rfl)
    (hf : X.fn x = true ∨ X.env.scope.names.lookup x = some .local := by first | exact Or.inl rfl | exact Or.inr rfl) : WSs X (.AugAssign (.Name x p) .Add e pos :: rest) D σ H :=
  s_cons (ws_of (ps_aug nd hi hx pe_we ip_add hf) ⟨v, hs, h H (Xt.refl H) _ fun w H1 y kw => ⟨n, m, kI_eq hv, kI_eq kw, k _ H1 y kI_of⟩⟩)
end
section
variable {P : Program} {w : World} {K : PySem.W.Frag} {mg : Str → Option Value} {base : Heap} {f : Addr} {fd : FuncData} {tbs : List Addr} {cT PT : Addr}
/-- out = [c for c in there if goal_within(goals[c], there) is None] -/
theorem w_out (fG : FnK P w K mg base "goal_within" A34 3 (spGw tbs)) {cdv : Value} {A : Around} {outer : List Env} {s : Shared} {Hs H H0 : Hp} {E : XK} {D : Ends} {rest : List Stmt} {F : Fab} {ks : List Nat} {g : V} {d : Addr} {o2 o3 o4 o5 : Option V} {py p1 p2 p3 p4 p5 p6 p7 p8 p9 p10 p11 pos spos : Pos} {kk : Nat}
    (hr : Room 3 (DX P w K mg base N35 "staged" (topS 35) f cdv A outer s Hs E).A) (ok : F.Ok) (ht : ∀ P ∈ tbs, GxR.TabG H0 P) (hg : kLL M0 (F.gss F.pls) H0 g) (hd0 : H0 d = none) (x0 : Xt M0 H0 H) (hd : H d = some (.dK (tD ks))) (hk : ∀ c ∈ ks, c < F.m) (hlen : ks.length ≤ 1000)
    (k : ∀ q xs H', H0 q = none → H q = none → Xt M0 H0 H' → Tm H H' → (∀ b o, H b = some o → NT o → b ≠ d → H' b = some o) → H' d = some (.dK (tD ks)) → H' q = some (.lst xs) → RpL H' xs ((F.outs ks).map dI) → WSs (DX P w K mg base N35 "staged" (topS 35) f cdv A outer s Hs E) rest D [some g, some (.ref d), o2, o3, o4, some (.ref q)] H')
    (hsw : swapsWith (.ListComp (.Name "c" p1) [⟨.Name "c" p2, .Name "there" p3, [.Compare (.Call (.Name "goal_within" p4) [.Subscript (.Name "goals" p5) (.Name "c" p6) p7, .Name "there" p8] [] p9) [.Is] [.Constant .none kk p10] p11], 0⟩] S35_0 pos) (some (.Name "out" py)) spos.line (DX P w K mg base N35 "staged" (topS 35) f cdv A outer s Hs E).env = pure true) :
    WSs (DX P w K mg base N35 "staged" (topS 35) f cdv A outer s Hs E) (.Assign [.Name "out" py] (.ListComp (.Name "c" p1) [⟨.Name "c" p2, .Name "there" p3, [.Compare (.Call (.Name "goal_within" p4) [.Subscript (.Name "goals" p5) (.Name "c" p6) p7, .Name "there" p8] [] p9) [.Is] [.Constant .none kk p10] p11], 0⟩] S35_0 pos) spos :: rest) D [some g, some (.ref d), o2, o3, o4, o5] H := by
  refine s_cons (s_lock hd fun od => ?_)
  have xl : Xt M0 H0 (upd H d (.frz od (.dK (tD ks)))) := x0.mut hd0
  have tl : Tm H (upd H d (.frz od (.dK (tD ks)))) := Tm.dK hd
  have hgl := Mn.mono xl hg
  have hdl : (upd H d (.frz od (.dK (tD ks)))) d = some (.frz od (.dK (tD ks))) := upd_same
  have hkl : kK M0 (tD ks) (upd H d (.frz od (.dK (tD ks)))) (.ref d) := ⟨d, rfl, .inr ⟨od, hdl⟩, id⟩
  have e0 : (F.outs ks).map dI = (ks.filter fun c => (gw (F.gl c) ks).isNone).map dI := rfl
  refine ws_of (ps_setLc (i := 5) rfl sc35.nd rfl rfl hsw pi_wi bk35_0 (fun s H C cl fp => pg_name sc35.nd (i := 4) rfl (Or.inl rfl)) (fun s H C cl fp => ⟨fun pins s' σ H' Q I h => h s H C cl fp pins s' I⟩) (fun s H C cl fp => ⟨fun pins s' σ H' Q I h => h s H C cl fp pins s' I⟩) (by intro _; rfl))
    (lc_read (M := M0) (bs := ks) (enc := dI) (gg := dI) (f := fun c => (gw (F.gl c) ks).isNone) (by
      have h := ji_keys (M := M0) (tg := .Name "c" p2) (kvs := tD ks) (ks := castI ks) (e := .Name "there" p3) (X := DX P w K mg base N35 "staged" (topS 35) f cdv A outer s Hs E) (σ := [some g, some (.ref d), o2, o3, o4, o5]) (j_var 1 rfl rfl) hdl (tD_keys ks)
      rw [← map_dI] at h
      exact h) (by omega) (tg_name fun v => rfl) trivial (fun H9 c' σ2 x9 hm gd => jbts_one ?_) (fun H9 c' σ2 x9 hm gd _ => ?_) _ (Xt.refl _) _ fun q xs H2 n2 x2 e2 r2 => ⟨x2.keep _ _ hdl (nt_frz _ _) id, ?_⟩)
  · obtain ⟨v9, hv9, rfl⟩ := gd
    intro s0 H00 C cl fp
    have hc := hk c' hm
    rw [← isNd_dO]
    exact jt_cmp ok_isD (j_def (F.gl c', ks) fG (by exact hr) (by show (F.gl c').length ≤ 1000; have := gl_len ok c'; omega) (tabs_up (xl.trans x9) ht) (ja_cons (j_ix (ix_ll (gss_get hc)) (j_var 0 rfl (Mn.mono x9 hgl)) (j_var 4 rfl (K := kI (c' : Int)) hv9)) (ja_cons (j_var 1 rfl (Mn.mono x9 hkl)) ja_nil))) j_non
  · obtain ⟨v9, hv9, rfl⟩ := gd
    intro s0 H00 C cl fp
    exact j_var 4 rfl (K := kI (c' : Int)) hv9
  · have hqd : q ≠ d := fun z => by rw [z, hdl] at n2; cases n2
    have hqH : H q = none := (upd_ne hqd).symm.trans n2
    have h2d : H2 d = some (.frz od (.dK (tD ks))) := x2.keep _ _ hdl (nt_frz _ _) id
    have t2 : Tm H2 (upd H2 d (.dK (tD ks))) := (Tm.refl H2).mut fun xs z => by rw [h2d] at z; cases z
    refine k q xs _ (x0.free _ hqH) hqH ((xl.trans x2).mut hd0) ((tl.trans x2.tm).trans t2) (fun b o hb hn hbd => ?_) upd_same ((upd_ne hqd).trans e2) (RpL.tm t2 _ r2)
    rw [upd_ne hbd]
    exact x2.keep _ _ ((upd_ne hbd).trans hb) hn id
def spSg (tbs : List Addr) : Sp := spK tbs (ι := Fab) (fun F => F.Ok) (fun F => [kLL M0 (F.gss F.pls), kK M0 (tD (List.range F.m))]) (fun F => kPair (kSt F.m F.G) (kDk M0 (tD F.G)))
theorem fnSg (B : Blt mg) (F : Fun K "staged" "staged" (topS 35) f fd) (hm : mg "staged" = some (.ref f)) (fG : FnK P w K mg base "goal_within" A34 3 (spGw tbs)) : FnK P w K mg base "staged" A35 4 (spSg tbs) := by
  refine fn_k F hm sc35 (fun _ => rfl) (fun _ _ _ _ _ _ us hl => match us, hl with | [_, _], _ => rfl) fun cdv A outer s H vs Q E F hr hp ht hk hq => ?_
  have ok : F.Ok := hp
  have hq : RetK M0 (kPair (kSt F.m F.G) (kDk M0 (tD F.G))) H Q := hq
  obtain ⟨a, b, rfl, ha, hb⟩ := k2 hk
  have ha : kLL M0 (F.gss F.pls) H a := ha
  have hb : kK M0 (tD (List.range F.m)) H b := hb
  have h6 := ok.m6
  have hu := hu_of hr
  refine s_asgDK (M := M0) 1 sc35.nd (j_dictOf rfl B.dict (j_var 1 rfl hb)) fun d H1 n1 x1 e1 => ?_
  refine s_asgDK (M := M0) 2 sc35.nd j_dct0 fun ps H2 n2 x2 e2 => ?_
  have hdp : d ≠ ps := fun z => by rw [← z, e1] at n2; cases n2
  have x02 := x1.trans x2
  have np : H ps = none := x1.free _ n2
  refine s_asg (M := M0) 3 sc35.nd (K := kI ((0 : Nat) : Int)) j_int fun v3 H3 x3 k3 => ?_
  have x03 := x02.trans x3
  have e13 := (x2.trans x3).keep _ _ e1 (nt_dK _) id
  have e23 := x3.keep _ _ e2 (nt_dK _) id
  refine w_out fG hr ok ht ha n1 x03 e13 (fun c hc => List.mem_range.mp hc) (by rw [List.length_range]; omega) (fun po xo H4 n4 n4' x4 t4 kp4 ed4 eo4 ro4 => ?_) (sw_true rfl rfl rfl (by decide +kernel))
  have e24 := kp4 ps _ e23 (nt_dK _) hdp.symm
  refine s_while (M := M0) (fun m σ' H' => ∃ ks st n v3 po xo o4 k, σ' = [some a, some (.ref d), some (.ref ps), some v3, o4, some (.ref po)] ∧ kI ((n : Nat) : Int) H' v3 ∧ H' d = some (.dK (tD ks)) ∧ H' ps = some (.dK st) ∧ H' po = some (.lst xo) ∧ RpL H' xo ((F.outs ks).map dI) ∧ Xt M0 H H' ∧ m = ks.length ∧ ks.length < k ∧ F.stg k ks = F.G ∧ ks.Nodup ∧ (∀ c ∈ ks, c < F.m) ∧ st.length + ks.length ≤ F.m ∧
    (∀ c, c < F.m → c ∉ ks → ∃ n : Nat, valV st (Sum.inl (c : Int)) = some (.int (n : Int)))) F.m ⟨List.range F.m, [], 0, v3, po, xo, none, F.m + 1, rfl, Rp.tm t4 _ k3, ed4, e24, eo4, ro4, x4, by rw [List.length_range], by rw [List.length_range]; omega, rfl, List.nodup_range, fun c hc => List.mem_range.mp hc, by rw [List.length_range]; exact Nat.le_of_eq (Nat.zero_add _), fun c hc hn => absurd (List.mem_range.mpr hc) hn⟩ ?_
  rintro m σ' H5 ⟨ks, st, n, u3, po, xo, o4, k, rfl, ku3, ed5, es5, eo5, ro5, x5, rfl, hlt, hG, hnd, hks, hlen, hcov⟩
  have hksl : ks.length ≤ 6 := by omega
  have kpo : kL M0 ((F.outs ks).map dI) H5 (.ref po) := ⟨po, xo, rfl, eo5, ro5, id⟩
  refine ⟨!decide ((F.outs ks).map dI = []), jt_cmp (ok_neL0 (fun d hd => by obtain ⟨x, _, rfl⟩ := List.mem_map.mp hd; exact ⟨rfl, by unfold dI; simp only [PyData.depth]; omega⟩) (by have := hr.un; omega)) (j_var 5 rfl kpo) (JL.k j_lst0), fun q H6 x6 => ?_, fun q H6 x6 => ?_⟩
  · have hne : F.outs ks ≠ [] := fun z => by rw [z] at q; exact absurd q (by decide)
    have x06 := x5.trans x6
    refine s_forL (M := M0) (pg_name (i := 4) sc35.nd rfl (Or.inl rfl)) (jil_of (j_var 5 rfl (Mn.mono x6 kpo))) rfl fun p xs H7 x7 e7 r7 => ?_
    have x67 := x6.trans x7
    have ed7 := x67.keep _ _ ed5 (nt_dK _) id
    have es7 := x67.keep _ _ es5 (nt_dK _) id
    have hpd : p ≠ d := fun z => by rw [z, ed7] at e7; cases e7
    have hpp : p ≠ ps := fun z => by rw [z, es7] at e7; cases e7
    have ku7 : kI (n : Int) H7 u3 := Mn.mono (M := M0) x67 ku3
    have hond : (F.outs ks).Nodup := hnd.sublist List.filter_sublist
    refine ⟨fun j σ' H' => ∃ st o4, σ' = [some a, some (.ref d), some (.ref ps), some u3, o4, some (.ref po)] ∧ H' d = some (.dK (tD (ks.filter fun x => decide (x ∉ (F.outs ks).take j)))) ∧ H' ps = some (.dK st) ∧ H' p = some (.lst xs) ∧ st.length + (ks.filter fun x => decide (x ∉ (F.outs ks).take j)).length ≤ F.m ∧
      (∀ c, c < F.m → c ∉ (ks.filter fun x => decide (x ∉ (F.outs ks).take j)) → ∃ n : Nat, valV st (Sum.inl (c : Int)) = some (.int (n : Int))) ∧ Xt M0 H H' ∧ Tm H7 H', ⟨st, o4, rfl, ?_, es7, e7, ?_, ?_, x5.trans x67, Tm.refl _⟩, fun j σ' H' ⟨_, _, _, _, _, e, _, _, _, t⟩ => ⟨t, e⟩, ?_, ?_⟩
    · rw [List.take_zero, fil_nil]; exact ed7
    · rw [List.take_zero, fil_nil]; exact hlen
    · rw [List.take_zero, fil_nil]; exact hcov
    · rintro j dd v σ' H8 hj rv ⟨st, o4, rfl, ed8, es8, ep8, hl8, hc8, x8, t8⟩
      have hj0 : ((F.outs ks).map dI)[j]? = some dd := hj
      rw [List.getElem?_map] at hj0
      obtain ⟨cj, hj1, rfl⟩ := Option.map_eq_some_iff.mp hj0
      have hmo := List.mem_of_getElem? hj1
      have hmk : cj ∈ ks := memf hmo
      have hnt : cj ∉ (F.outs ks).take j := fun z => by
        obtain ⟨i, hi⟩ := List.mem_iff_getElem?.mp z
        have hij : i < j := by
          have := (List.getElem?_eq_some_iff.mp hi).1
          rw [List.length_take] at this
          omega
        rw [List.getElem?_take_of_lt hij] at hi
        have g1 := List.getElem?_eq_some_iff.mp hi
        have g2 := List.getElem?_eq_some_iff.mp hj1
        have := (List.getElem_inj (h₀ := g1.1) (h₁ := g2.1) hond).mp (g1.2.trans g2.2.symm)
        omega
      have hin : cj ∈ ks.filter fun x => decide (x ∉ (F.outs ks).take j) := List.mem_filter.mpr ⟨hmk, decide_eq_true hnt⟩
      have rv : kI (cj : Int) H8 v := rv
      have estep : (ks.filter fun x => decide (x ∉ (F.outs ks).take (j + 1))) = (ks.filter fun x => decide (x ∉ (F.outs ks).take j)).filter fun x => decide (x ≠ cj) := by
        rw [take_snoc hj1, fil_step]
      generalize hcur : (ks.filter fun x => decide (x ∉ (F.outs ks).take j)) = cur at *
      have hlt2 : (cur.filter fun x => decide (x ≠ cj)).length < cur.length := List.length_filter_lt_length_iff_exists.mpr ⟨cj, hin, by simp⟩
      show WSs _ _ _ _ _
      refine s_ddel (M := M0) 1 (c := (cj : Int)) rfl ed8 (j_var 4 rfl rv) (by rw [hasK_tD]; exact decide_eq_true hin) id fun H9 x9 e9 => ?_
      rw [tD_drop]
      have es9 := (upd_ne hdp.symm (H := H9) (o := .dK (tD (cur.filter fun x => decide (x ≠ cj))))).trans (x9.keep _ _ es8 (nt_dK _) id)
      have ep9 := (upd_ne hpd (H := H9) (o := .dK (tD (cur.filter fun x => decide (x ≠ cj))))).trans (x9.keep _ _ ep8 (nt_lst _) id)
      have t9 : Tm H8 (upd H9 d (.dK (tD (cur.filter fun x => decide (x ≠ cj))))) := x9.tm.trans (Tm.dK e9)
      have x09 : Xt M0 H (upd H9 d (.dK (tD (cur.filter fun x => decide (x ≠ cj))))) := (x8.trans x9).mut n1
      refine s_dput (M := M0) 2 (K := kI (n : Int)) (c := (cj : Int)) hu rfl es9 (j_var 3 rfl (Rp.tm (t8.trans t9) _ ku7)) (j_var 4 rfl (K := kI (cj : Int)) (Rp.tm t9 _ rv)) (by omega) id fun v6 H10 x10 k6 e10 => s_nil ⟨putK st (Sum.inl (cj : Int)) v6, some v, rfl, ?_, upd_same, ?_, ?_, ?_, (x09.trans x10).mut np, ((t8.trans t9).trans x10.tm).trans (Tm.dK e10)⟩
      · rw [upd_ne hdp, estep]
        exact x10.keep _ _ upd_same (nt_dK _) id
      · rw [upd_ne hpp]
        exact x10.keep _ _ ep9 (nt_lst _) id
      · rw [estep]
        have := putK_le st (Sum.inl (cj : Int)) v6
        omega
      · intro c hc hn
        rw [estep] at hn
        rw [valV_put]
        by_cases hcc : c = cj
        · subst hcc
          rw [if_pos rfl]
          exact ⟨n, by rw [kI_eq k6]⟩
        · rw [if_neg (fun z => hcc (by have := Sum.inl.inj z; omega))]
          exact hc8 c hc fun z => hn (List.mem_filter.mpr ⟨z, decide_eq_true hcc⟩)
    · rintro σ' H8 ⟨st, o4, rfl, ed8, es8, ep8, hl8, hc8, x8, t8⟩
      have est : (ks.filter fun x => decide (x ∉ (F.outs ks).take ((F.outs ks).map dI).length)) = F.stay ks := by
        rw [List.length_map, List.take_length]
        unfold Fab.stay
        refine List.filter_congr fun x hx => ?_
        unfold Fab.outs
        cases e : gw (F.gl x) ks with
        | none => exact decide_eq_false fun z => z (List.mem_filter.mpr ⟨hx, by rw [e]; rfl⟩)
        | some dd =>
          refine decide_eq_true fun z => ?_
          have := (List.mem_filter.mp z).2
          rw [e] at this
          cases this
      rw [est] at ed8 hl8 hc8
      refine s_augAdd (M := M0) 3 sc35.nd rfl (Rp.tm t8 _ ku7) j_int fun v9 H9 x9 k9 => ?_
      have ed9 := x9.keep _ _ ed8 (nt_dK _) id
      have es9 := x9.keep _ _ es8 (nt_dK _) id
      have hsl := outs_stay F ks
      have hop : 0 < (F.outs ks).length := List.length_pos_iff.mpr hne
      refine w_out fG hr ok ht ha n1 (x8.trans x9) ed9 (fun c hc => hks c (memf hc)) (by omega) (fun po2 xo2 H10 n10 n10' x10 t10 kp10 ed10 eo10 ro10 => ?_) (sw_true rfl rfl rfl (by decide +kernel))
      refine s_nil ⟨(F.stay ks).length, by omega, F.stay ks, st, n + 1, v9, po2, xo2, o4, k - 1, rfl, Rp.tm t10 _ k9, ed10, kp10 ps _ es9 (nt_dK _) hdp.symm, eo10, ro10, x10, rfl, by omega, ?_, hnd.sublist List.filter_sublist, fun c hc => hks c (memf hc), hl8, hc8⟩
      rw [← hG]
      obtain ⟨k', rfl⟩ : ∃ k', k = k' + 1 := ⟨k - 1, by omega⟩
      show F.stg k' (F.stay ks) = if F.outs ks = [] then ks else F.stg k' (F.stay ks)
      rw [if_neg hne]
  · have he : F.outs ks = [] := by
      have := nb_f q
      exact List.map_eq_nil_iff.mp (of_decide_eq_true this)
    have hk : ks = F.G := by
      rw [← hG]
      obtain ⟨k', rfl⟩ : ∃ k', k = k' + 1 := ⟨k - 1, by omega⟩
      show ks = if F.outs ks = [] then ks else F.stg k' (F.stay ks)
      rw [if_pos he]
    rw [hk] at hcov ed5
    have kst : kSt F.m F.G H6 (.ref ps) := ⟨st, hcov, ps, rfl, x6.keep _ _ es5 (nt_dK _) id, id⟩
    have kth : kDk M0 (tD F.G) H6 (.ref d) := ⟨d, rfl, x6.keep _ _ ed5 (nt_dK _) id, id⟩
    exact s_ret (M := M0) (j_pair (j_var 2 rfl kst) (j_var 1 rfl kth)) fun v H7 x7 k => hq v H7 ((x5.trans x6).trans x7) k
end
end K68

set_option Elab.async false
set_option linter.all false
set_option maxRecDepth 100000
set_option maxHeartbeats 1000000
/-! K68, text B21: knot_of, least_ranks, greatest_knot. -/
namespace K68
open PySem PySem.Spec L2
open PyProof.Rows hiding St
def kNon (b : Bool) : Kn := fun _ v => decide (v = .non) = b
instance (M : Md) (b : Bool) : Mn M (kNon b) := ⟨fun _ h => h⟩
def Fab.dKt (F : Fab) : PyData := .tuple (F.G.map fun c => dPl (c, F.gd c))
def Fab.dGk (F : Fab) : PyData := if F.G = [] then .none else F.dKt
theorem G_asc (F : Fab) : F.G.Pairwise (· ≤ ·) := List.Pairwise.sublist (G_sub F) (List.pairwise_lt_range.imp fun h => Nat.le_of_lt h)
theorem sortI_G (F : Fab) : sortI (castI F.G) = castI F.G := sorted_uniq (sortI_perm _) (sortI_asc _) (castI_asc (G_asc F))
theorem G_len {F : Fab} (ok : F.Ok) : F.G.length ≤ 6 := by
  have := (G_sub F).length_le
  rw [List.length_range] at this
  have := ok.m6
  omega
section
variable {P : Program} {w : World} {K : PySem.W.Frag} {mg : Str → Option Value} {base : Heap} {f : Addr} {fd : FuncData} {tbs : List Addr} {cT PT : Addr}
def spKo (tbs : List Addr) : Sp := spK tbs (ι := Fab) (fun F => F.Ok) (fun F => [kLL M0 (F.gss F.pls), kDk M0 (tD F.G)]) (fun F => kD F.dKt)
theorem fnKo (B : Blt mg) (F : Fun K "knot_of" "knot_of" (topS 37) f fd) (hm : mg "knot_of" = some (.ref f)) (fG : FnK P w K mg base "goal_within" A34 3 (spGw tbs)) : FnK P w K mg base "knot_of" A37 4 (spKo tbs) := by
  refine fn_k F hm sc37 (fun _ => rfl) (fun _ _ _ _ _ _ us hl => match us, hl with | [_, _], _ => rfl) fun cdv A outer s H vs Q E F hr hp ht hk hq => ?_
  have ok : F.Ok := hp
  have hq : RetK M0 (kD F.dKt) H Q := hq
  obtain ⟨a, b, rfl, ha, hb⟩ := k2 hk
  have ha : kLL M0 (F.gss F.pls) H a := ha
  have hb : kDk M0 (tD F.G) H b := hb
  have hGl := G_len ok
  refine s_ret (M := M0) (K := kD F.dKt) (j_tupL B (JL.k (j_lcT (bs := F.G) (enc := dI) (gg := fun c => dPl (c, F.gd c)) rfl sc37.nd bk37_0 (fun s H C cl fp => pg_name sc37.nd (i := 2) rfl (Or.inl rfl)) ?_ (by omega) (tg_name fun v => rfl) (fun H1 c' σ2 x1 hm gd => ?_)))) fun v H1 x k => hq v H1 x k
  · have e : F.G.map dI = (sortI (castI F.G)).map .int := by rw [sortI_G, map_dI]
    rw [e]
    exact JIL.x (jil_of (JL.k (j_callBL (ck_sortD (kvs := tD F.G) (ks := castI F.G) rfl (tD_keys _) (by rw [castI_len]; omega)) rfl B.sorted bt_sorted (ja_cons (j_var 1 rfl hb.k) ja_nil) (by decide) (by decide) rfl rfl)))
  · obtain ⟨v9, hv9, rfl⟩ := gd
    intro s0 H0 C cl fp
    have hv9 : kI (c' : Int) H1 v9 := hv9
    refine j_tup2 (j_var 2 rfl hv9) (JK.is (j_def (F.gl c', F.G) fG (by exact hr) (by show (F.gl c').length ≤ 1000; have := gl_len ok c'; omega) (tabs_up x1 ht) (ja_cons (j_ix (ix_ll (gss_get (G_lt hm))) (j_var 0 rfl (Mn.mono x1 ha)) (j_var 2 rfl hv9)) (ja_cons (j_var 1 rfl (Mn.mono x1 hb.k)) ja_nil))) ?_)
    show dO (gw (F.gl c') F.G) = dI (F.gd c')
    rw [gd_eq hm]
    rfl
def spLr (tbs : List Addr) : Sp := spK tbs (ι := Fab) (fun F => F.Ok) (fun F => [kD F.dCase]) (fun F => kNon (!decide (F.G = [])))
theorem tD_emp (ks : List Nat) : (!(tD ks).isEmpty) = !decide (ks = []) := by cases ks <;> rfl
theorem fnLr (B : Blt mg) (F : Fun K "least_ranks" "least_ranks" (topS 38) f fd) (hm : mg "least_ranks" = some (.ref f)) (fS : FnK P w K mg base "staged" A35 4 (spSg tbs)) (fA : FnK P w K mg base "away_goals" A32 3 spAg) (fC : FnK P w K mg base "all_channels" A36 1 spAc) : FnK P w K mg base "least_ranks" A38 5 (spLr tbs) := by
  refine fn_k F hm sc38 (fun _ => rfl) (fun _ _ _ _ _ _ us hl => match us, hl with | [_], _ => rfl) fun cdv A outer s H vs Q E F hr hp ht hk hq => ?_
  have ok : F.Ok := hp
  have hq : RetK M0 (kNon (!decide (F.G = []))) H Q := hq
  obtain ⟨a, rfl, ha⟩ := k1 hk
  have ha : kD F.dCase H a := ha
  have hu := hu_of hr
  have h6 := ok.m6
  refine s_asgG (M := M0) (K := kPair (kSt F.m F.G) (kDk M0 (tD F.G))) (pg_tup rfl (pgs_cons (pg_name (i := 1) sc38.nd rfl (Or.inr rfl)) (pgs_cons (pg_name (i := 2) sc38.nd rfl (Or.inl rfl)) pgs_nil))) (j_def F fS hr ok ht (ja_cons (j_def F fA (hr.mono (by decide : 3 ≤ 4)) ok no_tabs (ja_cons (j_var 0 rfl ha) ja_nil)) (ja_cons (JK.imp (M := M0) (K' := kK M0 (tD (List.range F.m))) (j_def F fC (hr.mono (by decide : 1 ≤ 4)) ok no_tabs (ja_cons (j_var 0 rfl ha) ja_nil)) fun H v h => kDk.k h) ja_nil))) fun v H1 x1 k1 => g_pairK k1 fun v1 v2 r1 r2 => ?_
  obtain ⟨st, hst, r1⟩ := r1
  refine s_ret (M := M0) (K := kNon (!decide (F.G = []))) (j_if (t := !decide (F.G = [])) (jt_dict (kvs := tD F.G) (JK.imp (j_var 2 rfl r2) fun H v h => by obtain ⟨p, e1, e2, _⟩ := h; exact ⟨p, e1, e2⟩) (tD_emp _).symm) (fun q => ?_) fun q => ?_) fun v H2 x2 k => hq v H2 (x1.trans x2) k
  · rw [q]
    exact JK.imp j_non fun H v h => by rw [kN_eq h]; exact decide_eq_true (rfl : V.non = V.non)
  · have hG : F.G = [] := of_decide_eq_true (nb_f q)
    rw [q]
    have hst' : ∀ c, ∃ n : Nat, c < F.m → valV st (Sum.inl (c : Int)) = some (.int (n : Int)) := fun c => by
      by_cases hc : c < F.m
      · obtain ⟨n, e⟩ := hst c hc (by rw [hG]; exact fun z => by cases z)
        exact ⟨n, fun _ => e⟩
      · exact ⟨0, fun z => absurd z hc⟩
    refine JK.imp (K := kD (.tuple ((List.range F.m).map fun c => dI (Classical.choose (hst' c))))) (j_tupL B (JL.k (j_lcT (bs := List.range F.m) (enc := dI) rfl sc38.nd bk38_0 (fun s H C cl fp => pg_name sc38.nd (i := 3) rfl (Or.inl rfl)) (JI.x (ji_rng rfl B.range (j_lenCh B (j_n1 (j_k0 (j_var 0 rfl (Mn.mono x1 ha))))) (by omega))) (by rw [List.length_range]; omega) (tg_name fun v => rfl) (fun H2 c' σ2 x2 hm gd => ?_)))) fun H v h => by
      show decide (v = .non) = false
      rw [rp_non h]
    obtain ⟨v9, hv9, rfl⟩ := gd
    intro s0 H0 C cl fp
    have hv9 : kI (c' : Int) H2 v9 := hv9
    exact j_dget hu (j_var 1 rfl (Mn.mono x2 r1.k)) (j_var 3 rfl hv9) (Classical.choose_spec (hst' c') (List.mem_range.mp hm)) fun H _ => kI_of
def spGk (tbs : List Addr) : Sp := spK tbs (ι := Fab) (fun F => F.Ok) (fun F => [kD F.dCase]) (fun F => kD F.dGk)
theorem fnGk (B : Blt mg) (F : Fun K "greatest_knot" "greatest_knot" (topS 39) f fd) (hm : mg "greatest_knot" = some (.ref f)) (fS : FnK P w K mg base "staged" A35 4 (spSg tbs)) (fA : FnK P w K mg base "away_goals" A32 3 spAg) (fC : FnK P w K mg base "all_channels" A36 1 spAc) (fK : FnK P w K mg base "knot_of" A37 4 (spKo tbs)) : FnK P w K mg base "greatest_knot" A39 5 (spGk tbs) := by
  refine fn_k F hm sc39 (fun _ => rfl) (fun _ _ _ _ _ _ us hl => match us, hl with | [_], _ => rfl) fun cdv A outer s H vs Q E F hr hp ht hk hq => ?_
  have ok : F.Ok := hp
  have hq : RetK M0 (kD F.dGk) H Q := hq
  obtain ⟨a, rfl, ha⟩ := k1 hk
  have ha : kD F.dCase H a := ha
  refine s_asg (M := M0) 1 sc39.nd (K := kLL M0 (F.gss F.pls)) (j_def F fA (hr.mono (by decide : 3 ≤ 4)) ok no_tabs (ja_cons (j_var 0 rfl ha) ja_nil)) fun v1 H1 x1 k1 => ?_
  refine s_asg (M := M0) 2 sc39.nd (K := kDk M0 (tD F.G)) (j_ix (Ka := kPair (kSt F.m F.G) (kDk M0 (tD F.G))) ix_pair1 (j_def F fS hr ok (tabs_up x1 ht) (ja_cons (j_var 1 rfl k1) (ja_cons (JK.imp (M := M0) (K' := kK M0 (tD (List.range F.m))) (j_def F fC (hr.mono (by decide : 1 ≤ 4)) ok no_tabs (ja_cons (j_var 0 rfl (Mn.mono x1 ha)) ja_nil)) fun H v h => kDk.k h) ja_nil))) j_int) fun v2 H2 x2 k2 => ?_
  have x02 := x1.trans x2
  refine s_ret (M := M0) (K := kD F.dGk) (j_if (t := !decide (F.G = [])) (jt_dict (kvs := tD F.G) (JK.imp (j_var 2 rfl k2) fun H v h => by obtain ⟨p, e1, e2, _⟩ := h; exact ⟨p, e1, e2⟩) (tD_emp _).symm) (fun q => ?_) fun q => ?_) fun v H3 x3 k => hq v H3 (x02.trans x3) k
  · have hG : F.G ≠ [] := of_decide_eq_false (nb_t q)
    unfold Fab.dGk
    rw [if_neg hG]
    exact j_def F fK hr ok (tabs_up x02 ht) (ja_cons (j_var 1 rfl (Mn.mono x2 k1)) (ja_cons (j_var 2 rfl k2) ja_nil))
  · have hG : F.G = [] := of_decide_eq_true (nb_f q)
    unfold Fab.dGk
    rw [if_pos hG]
    exact j_non
end
end K68

set_option Elab.async false
set_option linter.all false
set_option maxRecDepth 100000
set_option maxHeartbeats 1000000
/-! K68, text C3: the law's box; _law_box, _law_load, _law_draw. -/
namespace K68
open PySem PySem.Spec L2
open PyProof.Rows hiding St
def boxI (b c : Addr) (H : Hp) : Prop := b ≠ c ∧ ∃ (cells : List Int) (pool seed nodes : Int), H b = some (.lst [.ref c, .int pool, .int seed, .int nodes]) ∧ H c = some (.lst (cells.map V.int))
/-- the box and its cells may change -/
def MB (b c : Addr) : Md := ⟨fun a => a = b ∨ a = c, boxI b c, fun H a hi hm => by
  obtain ⟨_, cells, pool, seed, nodes, h1, h2⟩ := hi
  rcases hm with rfl | rfl
  · exact ⟨_, h1, nt_lst _, fun xs z => by cases z⟩
  · exact ⟨_, h2, nt_lst _, fun xs z => by cases z⟩, fun H H' h hi => by
  obtain ⟨n, cells, pool, seed, nodes, h1, h2⟩ := hi
  exact ⟨n, cells, pool, seed, nodes, (h b (.inl rfl)).trans h1, (h c (.inr rfl)).trans h2⟩⟩
theorem Xt.own {M : Md} {H : Hp} {p : Addr} {xs ys : List V} (hm : M.m p) (h : H p = some (.lst xs)) (hi : M.i (upd H p (.lst ys))) : Xt M H (upd H p (.lst ys)) := by
  refine ⟨fun a o e n hn => ?_, Tm.lst h, fun P t => tabG_upd t fun z => ?_, fun q z => (upd_none z).2, fun _ => hi⟩
  · rw [upd_ne (fun z => hn (by rw [z]; exact hm))]; exact e
  · obtain ⟨ps, e, _⟩ := t
    rw [z, h] at e
    cases e
section
variable {M : Md} {X : Cx}
theorem ix_ownI {p : Addr} {xs : List V} {i n : Int} (h : atI xs i = some (.int n)) : IxK M X (kOwn M p xs) (kI i) (kI n) := ⟨_, ix_list, fun H x y Q a b q => by
  obtain ⟨rfl, e, _⟩ := a
  exact ⟨p, xs, i, _, rfl, kI_eq b, SqL.of e, h, q _ H (Xt.refl H) kI_of⟩⟩
/-- a list of whole numbers that is read -/
def kSq (K : PySem.W.Frag) (ns : List Int) : Kn := fun H v => ∃ l, v = .ref l ∧ SqL K H l (ns.map V.int)
instance (K : PySem.W.Frag) (ns : List Int) : Mn M0 (kSq K ns) := ⟨fun e ⟨l, a, b⟩ => ⟨l, a, by
  rcases b with b | b
  · rcases b with b | ⟨o, b⟩
    · exact .inl (.inl (e.keep _ _ b (nt_lst _) id))
    · exact .inl (.inr ⟨o, e.keep _ _ b (nt_frz _ _) id⟩)
  · exact .inr b⟩⟩
theorem ck_listS {ns : List Int} : CallL M X (.type "list") [kSq X.K ns] (ns.map .int) := ⟨_, call_list_of, fun H vs Q k q => by
  obtain ⟨v, rfl, kv⟩ := k1 k
  obtain ⟨l, rfl, e⟩ := kv
  exact ⟨l, _, rfl, .inl e, fun p hp => q p _ _ hp (Xt.new hp) upd_same (RpL.of_ints ns)⟩⟩
theorem ck_lenSq {ns : List Int} : CallK M X (.builtin "len") [kSq X.K ns] (kI (ns.length : Int)) := ⟨_, call_len_seq, fun H vs Q k q => by
  obtain ⟨v, rfl, kv⟩ := k1 k
  obtain ⟨p, rfl, e⟩ := kv
  refine ⟨p, _, rfl, .inl e, ?_⟩
  rw [List.length_map]
  exact q _ H (Xt.refl H) kI_of⟩
end
/-- a list of the def's own, new since H0 -/
def kNew (H0 : Hp) (xs : List V) : Kn := fun H v => ∃ c, v = .ref c ∧ H0 c = none ∧ H c = some (.lst xs)
instance (H0 : Hp) (xs : List V) : Mn M0 (kNew H0 xs) := ⟨fun e ⟨c, a, b, h⟩ => ⟨c, a, b, e.keep _ _ h (nt_lst _) id⟩⟩
section
variable {P : Program} {w : World} {K : PySem.W.Frag} {mg : Str → Option Value} {base : Heap} {f : Addr} {fd : FuncData}
theorem jl_new {X : Cx} {e : Expr} {σ : L2.St} {H : Hp} {ns : List Int} (hl : JL M0 X e σ H (ns.map .int)) : JK M0 X e σ H (kNew H (ns.map V.int)) := fun H1 x Q q => hl H1 x Q fun p xs H2 n2 y e r => q _ H2 y ⟨p, rfl, x.free p n2, by rw [e, RpL.ints r]⟩
/-- a new box -/
def spBx (K : PySem.W.Frag) : Sp := fun vs H Q _ => ∃ (ns : List Int) (nodes : Int), KAll [kSq K ns, kI nodes] H vs ∧ ∀ b c H', H b = none → H c = none → Xt M0 H H' → boxI b c H' → Q (.ref b) H'
theorem fnBx (B : Blt mg) (F : Fun K "_law_box" "_law_box" (topS 41) f fd) (hm : mg "_law_box" = some (.ref f)) : FnK P w K mg base "_law_box" A41 1 (spBx K) := by
  refine fn_sp F hm sc41 (fun vs H Q E ⟨ns, nodes, h, _⟩ => kall_len h) (fun _ _ _ _ _ _ us hl => match us, hl with | [_, _], _ => rfl) fun cdv A outer s H vs Q E hr ⟨ns, nodes, hk, hq⟩ => ?_
  obtain ⟨a, n, rfl, ha, hn⟩ := k2 hk
  refine s_cons (ws_of (ps_ret (pe_lst pa_wa)) ?_)
  refine (ja_cons (K := kNew H (ns.map V.int)) (jl_new (j_callTyL ck_listS (by rfl) B.list bt_list (ja_cons (j_var 0 rfl ha) ja_nil) (by decide) (by decide) rfl rfl)) (ja_cons (K := kI 0) j_int (ja_cons (K := kI (4711 + (ns.length : Int))) (j_op ok_add j_int (j_callB ck_lenSq (by rfl) B.len bt_len (ja_cons (j_var 0 rfl ha) ja_nil) (by decide) (by decide) rfl rfl)) (ja_cons (j_var 1 rfl hn) ja_nil))) (by rfl)) H (Xt.refl H) _ fun vs H2 y k => ?_
  obtain ⟨v1, v2, v3, v4, rfl, r1, r2, r3, r4⟩ := k4 k
  obtain ⟨c, rfl, nc, ec⟩ := r1
  refine ⟨show 4 ≤ sizeLine by decide, fun b hb => ?_⟩
  have hbc : b ≠ c := fun z => by rw [z, ec] at hb; cases hb
  refine hq b c _ (y.free _ hb) nc (y.trans (Xt.new hb)) ⟨hbc, ns, 0, 4711 + (ns.length : Int), nodes, ?_, (upd_ne hbc.symm).trans ec⟩
  rw [kI_eq r2, kI_eq r3, kI_eq r4]
  exact upd_same
def spLd : Sp := fun vs H Q _ => ∃ b c, boxI b c H ∧ vs = [.ref b] ∧ ∀ p H', Xt (MB b c) H H' → Q (.int p) H'
theorem boxI.own {b c : Addr} {H : Hp} {k : Nat} (h : boxI b c H) : ∃ pool seed nodes, H b = some (.lst [.ref c, .int pool, .int seed, .int nodes]) := by
  obtain ⟨_, _, pool, seed, nodes, h1, _⟩ := h
  exact ⟨pool, seed, nodes, h1⟩
theorem boxI.put {b c : Addr} {H : Hp} {p s n : Int} (h : boxI b c H) : boxI b c (upd H b (.lst [.ref c, .int p, .int s, .int n])) := by
  obtain ⟨hn, cells, _, _, _, _, h2⟩ := h
  exact ⟨hn, cells, p, s, n, upd_same, (upd_ne hn.symm).trans h2⟩
theorem boxI.xt {b c : Addr} {H H' : Hp} {p s n : Int} {xs : List V} (h : boxI b c H) (x : Xt (MB b c) H H') (hb : H' b = some (.lst xs)) : Xt (MB b c) H (upd H' b (.lst [.ref c, .int p, .int s, .int n])) :=
  x.trans (Xt.own (.inl rfl) hb (boxI.put (x.inv h)))
theorem fnLd (B : Blt mg) (F : Fun K "_law_load" "_law_load" (topS 42) f fd) (hm : mg "_law_load" = some (.ref f)) : FnK P w K mg base "_law_load" A42 1 spLd := by
  refine fn_sp F hm sc42 (fun vs H Q E ⟨b, c, _, e, _⟩ => by rw [e]; rfl) (fun _ _ _ _ _ _ us hl => match us, hl with | [_], _ => rfl) fun cdv A outer s H vs Q E hr ⟨b, c, hb, e, hq⟩ => ?_
  subst e
  obtain ⟨D, hD⟩ : ∃ D : Ends, D = { nx := fun _ H' => Q .non H', rt := Q } := ⟨_, rfl⟩
  have rest : ∀ o2 o3 H', Xt (MB b c) H H' → WSs (DX P w K mg base N42 "_law_load" (topS 42) f cdv A outer s H E) ((defBody (topS 42)).drop 2) { nx := fun _ H' => Q .non H', rt := Q } [some (.ref b), some (.ref c), o2, o3, none, none] H' := by
    intro o2 o3 H' x
    obtain ⟨_, cells, pool, seed, nodes, h1, h2⟩ := x.inv hb
    refine s_asg (M := M0) 4 sc42.nd (K := kI ((seed * 48271 + 17) % 2147483629)) (j_op (ok_mod (by decide)) (j_callTy ck_int rfl B.int bt_int (ja_cons (j_op ok_add (j_op (ok_mul (.inr ⟨by decide, by decide⟩)) (j_ix (ix_ownI (p := b) (xs := [.ref c, .int pool, .int seed, .int nodes]) (i := 2) rfl) (j_var 0 rfl ⟨rfl, h1, id⟩) j_int) j_int) j_int) ja_nil) (by decide) (by decide) rfl rfl) j_int) fun v4 H1 x1 k4 => ?_
    generalize (seed * 48271 + 17) % 2147483629 = fi at k4
    refine s_asg (M := M0) 5 sc42.nd (K := kI ((fi * 69621 + 5) % 2147483587)) (j_op (ok_mod (by decide)) (j_callTy ck_int rfl B.int bt_int (ja_cons (j_op ok_add (j_op (ok_mul (.inr ⟨by decide, by decide⟩)) (j_var 4 rfl k4) j_int) j_int) ja_nil) (by decide) (by decide) rfl rfl) j_int) fun v5 H2 x2 k5 => ?_
    generalize (fi * 69621 + 5) % 2147483587 = se at k5
    have h12 := (x1.trans x2).keep _ _ h1 (nt_lst _) id
    refine s_setL (M := M0) (j := 2) (K := kI ((se * 40692 + 3) % 2147483563)) (j_op (ok_mod (by decide)) (j_callTy ck_int rfl B.int bt_int (ja_cons (j_op ok_add (j_op (ok_mul (.inr ⟨by decide, by decide⟩)) (j_var 5 rfl k5) j_int) j_int) ja_nil) (by decide) (by decide) rfl rfl) j_int) (j_var 0 rfl rfl) h12 j_int (show 2 < 4 by decide) id fun v6 H3 x3 k6 e3 => ?_
    rw [kI_eq k6]
    generalize (se * 40692 + 3) % 2147483563 = th at k6
    have x03 := x.trans (((x1.trans x2).trans x3).lift (M := MB b c))
    have x4 : Xt (MB b c) H (upd H3 b (.lst [.ref c, .int pool, .int th, .int nodes])) := boxI.xt hb x03 e3
    have t3 : Tm H3 (upd H3 b (.lst [.ref c, .int pool, .int th, .int nodes])) := Tm.lst e3
    have k4' : kI fi (upd H3 b (.lst [.ref c, .int pool, .int th, .int nodes])) v4 := Rp.tm ((x2.trans x3).tm.trans t3) _ k4
    have k5' : kI se (upd H3 b (.lst [.ref c, .int pool, .int th, .int nodes])) v5 := Rp.tm (x3.tm.trans t3) _ k5
    refine s_ret (M := M0) (j_op ok_add (j_op ok_add (j_op (ok_mul (.inr ⟨by decide, by decide⟩)) (j_var 4 rfl k4') j_int) (j_op (ok_mul (.inr ⟨by decide, by decide⟩)) (j_var 5 rfl k5') j_int)) (j_ix (ix_ownI (p := b) (xs := [.ref c, .int pool, .int th, .int nodes]) (i := 2) rfl) (j_var 0 rfl ⟨rfl, upd_same, id⟩) j_int)) fun v H5 x5 k => ?_
    rw [kI_eq k]
    exact hq _ H5 (x4.trans x5.lift)
  obtain ⟨hbc, cells, pool, seed, nodes, h1, h2⟩ := hb
  have hb : boxI b c H := ⟨hbc, cells, pool, seed, nodes, h1, h2⟩
  refine s_asg (M := M0) 1 sc42.nd (K := kE (.ref c)) (j_ix (ix_own (p := b) (xs := [.ref c, .int pool, .int seed, .int nodes]) (i := 0) rfl) (j_var 0 rfl ⟨rfl, h1, id⟩) j_int) fun v1 H1 x1 k1 => ?_
  have k1 : v1 = .ref c := k1
  subst k1
  have h11 := x1.keep _ _ h1 (nt_lst _) id
  have h21 := x1.keep _ _ h2 (nt_lst _) id
  have kc : kL M0 (cells.map .int) H1 (.ref c) := ⟨c, _, rfl, h21, RpL.of_ints cells, id⟩
  refine s_if (M := M0) (jt_cmp ok_gt (j_lenL B (j_var 1 rfl kc)) j_int) (fun q H2 x2 => ?_) fun q H2 x2 => ?_
  · cases cells with
    | nil => exact absurd q (by decide)
    | cons x r =>
      have h22 := x2.keep _ _ h21 (nt_lst _) id
      have h12 := x2.keep _ _ h11 (nt_lst _) id
      refine s_cons (ws_of (ps_set sc42.nd (i := 2) rfl (Or.inl rfl) (pe_callTy call_int1 rfl B.int bt_int (pa_cons (pe_bm PySem.F.plainAttrs_list PySem.F.slot_list_pop PySem.F.type_list_pop mt_popAt (pe_var (i := 1) rfl (Or.inl rfl)) (pa_cons pe_int pa_nil)) pa_nil))) ⟨_, rfl, .inl ⟨rfl, _, SqL.of h22⟩, c, _, 0, 0, .int x, rfl, rfl, h22, by decide, by decide, ?_, rfl, .inl ⟨x, rfl, ?_⟩⟩)
      · rw [seqIndex_of (by decide) (by rw [List.length_map, List.length_cons]; omega)]; rfl
      · show WSs _ _ _ [some (.ref b), some (.ref c), some (.int x), none, none, none] (upd H2 c (.lst (r.map V.int)))
        have x3 : Xt (MB b c) H (upd H2 c (.lst (r.map V.int))) := ((x1.trans x2).lift (M := MB b c)).trans (Xt.own (.inr rfl) h22 ⟨hbc, r, pool, seed, nodes, (upd_ne hbc).trans h12, upd_same⟩)
        have h13 : (upd H2 c (.lst (r.map V.int))) b = some (.lst [.ref c, .int pool, .int seed, .int nodes]) := (upd_ne hbc).trans h12
        generalize (upd H2 c (.lst (r.map V.int))) = H3 at *
        refine s_asg (M := M0) 3 sc42.nd (K := kI (if 0 ≤ x then 2 * x else -2 * x - 1)) (j_if (t := decide (0 ≤ x)) (jt_cmp ok_ge (j_var 2 rfl (K := kI x) kI_of) j_int) (fun q => ?_) fun q => ?_) fun v3 H4 x4 k3 => ?_
        · rw [if_pos (of_decide_eq_true q)]
          exact j_op (ok_mul (.inl ⟨by decide, by decide⟩)) j_int (j_var 2 rfl (K := kI x) kI_of)
        · rw [if_neg (of_decide_eq_false q)]
          exact j_op ok_sub (j_op (ok_mul (.inl ⟨by decide, by decide⟩)) (j_neg j_int) (j_var 2 rfl (K := kI x) kI_of)) j_int
        generalize (if 0 ≤ x then 2 * x else -2 * x - 1) = sz at k3
        refine s_when (M := M0) (jt_cmp ok_ge (j_var 3 rfl k3) j_int) (fun q H5 x5 => ?_) fun q H5 x5 => ?_
        · refine s_ret (M := M0) (K := kI sz) (j_var 3 rfl (Mn.mono (M := M0) x5 k3)) fun v H6 x6 k => ?_
          rw [kI_eq k]
          exact hq _ H6 (x3.trans ((x4.trans x5).trans x6).lift)
        · have h15 := (x4.trans x5).keep _ _ h13 (nt_lst _) id
          refine s_setL (M := M0) (j := 2) (K := kI ((seed * 69621 + sz * 48271 + 11) % 2147483647)) (j_op (ok_mod (by decide)) (j_callTy ck_int rfl B.int bt_int (ja_cons (j_op ok_add (j_op ok_add (j_op (ok_mul (.inr ⟨by decide, by decide⟩)) (j_ix (ix_ownI (p := b) (xs := [.ref c, .int pool, .int seed, .int nodes]) (i := 2) rfl) (j_var 0 rfl ⟨rfl, h15, id⟩) j_int) j_int) (j_op (ok_mul (.inr ⟨by decide, by decide⟩)) (j_var 3 rfl (Mn.mono (M := M0) x5 k3)) j_int)) j_int) ja_nil) (by decide) (by decide) rfl rfl) j_int) (j_var 0 rfl rfl) h15 j_int (show 2 < 4 by decide) id fun v6 H6 x6 k6 e6 => ?_
          rw [kI_eq k6]
          exact s_nil (rest _ _ _ (boxI.xt hb (x3.trans ((x4.trans x5).trans x6).lift) e6))
  · exact s_nil (rest none none H2 ((x1.trans x2).lift))
def spDr : Sp := fun vs H Q _ => ∃ (b c : Addr) (many : Int), boxI b c H ∧ 0 < many ∧ many < 1073741824 ∧ vs = [.ref b, .int many] ∧ ∀ d H', 0 ≤ d → d < many → Xt (MB b c) H H' → Q (.int d) H'
theorem fnDr (B : Blt mg) (F : Fun K "_law_draw" "_law_draw" (topS 43) f fd) (hm : mg "_law_draw" = some (.ref f)) (fL : FnK P w K mg base "_law_load" A42 1 spLd) : FnK P w K mg base "_law_draw" A43 2 spDr := by
  refine fn_sp F hm sc43 (fun vs H Q E ⟨b, c, m, _, _, _, e, _⟩ => by rw [e]; rfl) (fun _ _ _ _ _ _ us hl => match us, hl with | [_, _], _ => rfl) fun cdv A outer s H vs Q E hr ⟨b, c, many, hb, h0, h30, e, hq⟩ => ?_
  subst e
  have rest : ∀ H', Xt (MB b c) H H' → WSs (DX P w K mg base N43 "_law_draw" (topS 43) f cdv A outer s H E) ((defBody (topS 43)).drop 1) { nx := fun _ H' => Q .non H', rt := Q } [some (.ref b), some (.int many), none] H' := by
    intro H' x
    obtain ⟨_, cells, pool, seed, nodes, h1, h2⟩ := x.inv hb
    refine s_asg (M := M0) 2 sc43.nd (K := kI (pool % many)) (j_op (ok_mod h0) (j_callTy ck_int rfl B.int bt_int (ja_cons (j_ix (ix_ownI (p := b) (xs := [.ref c, .int pool, .int seed, .int nodes]) (i := 1) rfl) (j_var 0 rfl ⟨rfl, h1, id⟩) j_int) ja_nil) (by decide) (by decide) rfl rfl) (j_var 1 rfl (K := kI many) kI_of)) fun v2 H1 x1 k2 => ?_
    have h11 := x1.keep _ _ h1 (nt_lst _) id
    refine s_setL (M := M0) (j := 1) (K := kI (pool / many)) (j_op (ok_fdiv ⟨h0, h30⟩) (j_ix (ix_ownI (p := b) (xs := [.ref c, .int pool, .int seed, .int nodes]) (i := 1) rfl) (j_var 0 rfl ⟨rfl, h11, id⟩) j_int) (j_var 1 rfl (K := kI many) kI_of)) (j_var 0 rfl rfl) h11 j_int (show 1 < 4 by decide) id fun v3 H2 x2 k3 e2 => ?_
    rw [kI_eq k3]
    have x03 : Xt (MB b c) H (upd H2 b (.lst [.ref c, .int (pool / many), .int seed, .int nodes])) := boxI.xt hb (x.trans (x1.trans x2).lift) e2
    refine s_ret (M := M0) (K := kI (pool % many)) (j_var 2 rfl (Rp.tm (x2.tm.trans (Tm.lst e2)) _ k2)) fun v H4 x4 k => ?_
    rw [kI_eq k]
    exact hq _ H4 (Int.emod_nonneg _ (by omega)) (Int.emod_lt_of_pos _ h0) (x03.trans x4.lift)
  obtain ⟨hbc, cells, pool, seed, nodes, h1, h2⟩ := hb
  have hb : boxI b c H := ⟨hbc, cells, pool, seed, nodes, h1, h2⟩
  refine s_if (M := M0) (jt_cmp ok_lt (j_ix (ix_ownI (p := b) (xs := [.ref c, .int pool, .int seed, .int nodes]) (i := 1) rfl) (j_var 0 rfl ⟨rfl, h1, id⟩) j_int) (j_var 1 rfl (K := kI many) kI_of)) (fun q H2 x2 => ?_) fun q H2 x2 => ?_
  · have x2' : Xt (MB b c) H H2 := x2.lift
    refine s_cons (ws_of (ps_asg pe_we (pg_sub pe_we pe_we set_list)) ?_)
    refine we_call (M := M0) fL (hr.mono (by decide)) (by rfl) (ja_cons (K := kE (.ref b)) (j_var 0 rfl rfl) ja_nil) (fun vs H3 z k => ?_)
    obtain ⟨v, rfl, kv⟩ := k1 k
    have kv : v = .ref b := kv
    subst kv
    refine ⟨b, c, (x2'.trans z.lift).inv hb, rfl, fun p H4 x4 => ?_⟩
    have x04 : Xt (MB b c) H H4 := (x2'.trans z.lift).trans x4
    obtain ⟨_, cells', pool', seed', nodes', h14, h24⟩ := x04.inv hb
    refine (j_var (M := M0) (K := kE (.ref b)) 0 rfl rfl) H4 (Xt.refl _) _ fun u H5 x5 ku => (j_int (M := M0)) H5 (Xt.refl _) _ fun w H6 x6 kw => ?_
    have h16 := (x5.trans x6).keep _ _ h14 (nt_lst _) id
    have ku : u = .ref b := ku
    exact ⟨b, _, 1, 1, ku, kI_eq kw, h16, rfl, s_nil (rest _ (boxI.xt hb (x04.trans (x5.trans x6).lift) h16))⟩
  · exact s_nil (rest H2 x2.lift)
end
end K68

set_option Elab.async false
set_option linter.all false
set_option maxRecDepth 100000
set_option maxHeartbeats 1000000
/-! K68, text C4: draws; _law_channels, _law_ring. -/
namespace K68
open PySem PySem.Spec L2
open PyProof.Rows hiding St
/-- some whole number of these -/
abbrev kN (E : Nat → Prop) : Kn := kX E dI
def dChs (cs : List Ch) : PyData := .tuple (cs.map dCh)
def chOk (n : Nat) (x : Ch) : Prop := x.u < n ∧ x.v < n ∧ 1 ≤ x.r ∧ x.r ≤ 1000
theorem kI_N {n : Nat} {H : Hp} {v : V} (h : kI (n : Int) H v) : kN (fun x => x = n) H v := ⟨n, rfl, h⟩
theorem OL.upM {M : Md} {H H' : Hp} {p : Addr} {xs : List V} {ds : List PyData} (h : OL H p xs ds) (hm : ¬ M.m p) (x : Xt M H H') : OL H' p xs ds := ⟨x.keep _ _ h.1 (nt_lst xs) hm, RpL.tm x.tm _ h.2⟩
theorem OL.klM {M : Md} {H : Hp} {p : Addr} {xs : List V} {ds : List PyData} (h : OL H p xs ds) (hm : ¬ M.m p) : kL M ds H (.ref p) := ⟨p, xs, rfl, h.1, h.2, hm⟩
section
variable {M : Md} {X : Cx} {a b c e : Expr} {σ : L2.St} {H : Hp} {pos p : Pos} {K Ka Kb : Kn} {D : Ends} {rest body orelse : List Stmt}
theorem j_N {n : Nat} (h : JK M X e σ H (kI (n : Int))) : JK M X e σ H (kN fun x => x = n) := JK.imp h fun H v k => kI_N k
theorem ok_addN {E E' E'' : Nat → Prop} (h : ∀ i j, E i → E' j → E'' (i + j)) : OpK M (binaryOp .Add) X (kN E) (kN E') (kN E'') := ⟨_, op_add, fun H x y Q ⟨i, ei, ki⟩ ⟨j, ej, kj⟩ q => ⟨i, j, kI_eq ki, kI_eq kj, q _ H (Xt.refl H) ⟨i + j, h i j ei ej, by
  show Rp H (.int ((i : Int) + (j : Int))) (.int ((i + j : Nat) : Int))
  rw [show ((i + j : Nat) : Int) = (i : Int) + (j : Int) by omega]
  exact Rp.int _⟩⟩⟩
theorem ok_catC {E E' E'' : List Ch → Prop} (h : ∀ i j, E i → E' j → E'' (i ++ j)) (hl : ∀ i j, E i → E' j → i.length + j.length ≤ 1000000) : OpK M (binaryOp .Add) X (kX E dChs) (kX E' dChs) (kX E'' dChs) := ⟨_, op_catA, fun H x y Q ⟨i, ei, a⟩ ⟨j, ej, b⟩ q => by
  obtain ⟨p, xs, rfl, e, r⟩ := rp_tup a
  obtain ⟨p2, ys, rfl, e2, r2⟩ := rp_tup b
  have l1 := r.length
  have l2 := r2.length
  rw [List.length_map] at l1 l2
  have hl := hl i j ei ej
  have ec : dChs (i ++ j) = .tuple (i.map dCh ++ j.map dCh) := by unfold dChs; rw [List.map_append]
  refine ⟨p, p2, xs, ys, rfl, rfl, SqT.of e, SqT.of e2, Nat.le_trans (by omega) (show 1000000 ≤ sizeLine by decide), fun h' => ?_, fun h' h2 => ?_, fun h' h2 z hz => ?_⟩
  · subst h'
    have hi : i = [] := by cases i with | nil => rfl | cons x r => simp at l1
    refine q _ H (Xt.refl H) ⟨i ++ j, h i j ei ej, ?_⟩
    rw [hi]
    exact Rp.tup e2 r2
  · subst h2
    have hj : j = [] := by cases j with | nil => rfl | cons x r => simp at l2
    refine q _ H (Xt.refl H) ⟨i ++ j, h i j ei ej, ?_⟩
    rw [hj, List.append_nil]
    exact Rp.tup e r
  · refine q _ _ (Xt.new hz) ⟨i ++ j, h i j ei ej, ?_⟩
    rw [ec]
    exact Rp.tup upd_same (RpL.tm (Xt.new (M := M) hz).tm _ (r.app r2))⟩
/-- a channel whose room is drawn -/
theorem j_chX {k u v : Nat} {R : Nat → Prop} {E : Ch → Prop} (h1 : JK M X a σ H (kI (u : Int))) (h2 : JK M X b σ H (kI (v : Int))) (h3 : JK M X c σ H (kN R)) (hE : ∀ r, R r → E ⟨u, v, r⟩)
    (hs : starEach [a, b, c] X.env = (false, eval a X.env) :: starEach [b, c] X.env := by rfl) (hs1 : starEach [b, c] X.env = (false, eval b X.env) :: starEach [c] X.env := by rfl) (hs2 : starEach [c] X.env = (false, eval c X.env) :: starEach [] X.env := by rfl) : JK M X (.Tuple [a, b, c] k pos) σ H (kX E dCh) := fun H1 x Q q =>
  we_of (pe_tup pa_wa) (ja_cons h1 (ja_cons h2 (ja_cons h3 ja_nil hs2) hs1) hs H1 x _ fun vs H2 y k => by
    obtain ⟨v1, v2, v3, rfl, r1, r2, r, er, r3⟩ := k3 k
    have r1 : Rp H2 v1 (dI u) := r1
    have r2 : Rp H2 v2 (dI v) := r2
    refine ⟨show 3 ≤ sizeLine by decide, fun p hp => q _ _ (y.trans (Xt.new hp)) ⟨⟨u, v, r⟩, hE r er, ?_⟩⟩
    have t := (Xt.new (M := M) (H := H2) (p := p) (o := .tup [v1, v2, v3]) hp).tm
    exact Rp.tup upd_same (.cons (Rp.tm t _ r1) (.cons (Rp.tm t _ r2) (.cons (Rp.tm t _ r3) .nil))))
/-- tests that may come out either way -/
theorem jte_cmp {op : CmpOp} {P : Bool → Prop} [Mn M Ka] (o : ∃ r : R2, OpR X (compareOp op) r ∧ ∀ H x y (Q : VK), Ka H x → Kb H y → (∀ t, P t → Q (.bl t) H) → r x y H Q) (ha : JK M X a σ H Ka) (hb : JK M X b σ H Kb) (hm : behindInMarks op b = false := by rfl) : JTE M X (.Compare a [op] [b] pos) σ H P := fun H1 x Q q => by
  obtain ⟨r, hr, ho⟩ := o
  exact wt_of (pt_cmpR hr pe_we pe_we hm) (ha H1 x _ fun v H2 y k => hb H2 (x.trans y) _ fun w H3 z k' => ho H3 v w _ (Mn.mono z k) k' fun t pt => ⟨_, rfl, q t H3 (y.trans z) pt⟩)
theorem eq_NI {E : Nat → Prop} {j : Int} : ∃ r : R2, OpR X (compareOp .Eq) r ∧ ∀ H x y (Q : VK), kN E H x → kI j H y → (∀ t, True → Q (.bl t) H) → r x y H Q := ⟨_, op_eq, fun H x y Q ⟨i, _, a⟩ b q => ⟨by rw [kI_eq a, kI_eq b]; rfl, by
  rw [kI_eq a, kI_eq b]
  exact q _ trivial⟩⟩
theorem lt_NN {E E' : Nat → Prop} : ∃ r : R2, OpR X (compareOp .Lt) r ∧ ∀ H x y (Q : VK), kN E H x → kN E' H y → (∀ t, True → Q (.bl t) H) → r x y H Q := ⟨_, op_lt, fun H x y Q ⟨i, _, a⟩ ⟨j, _, b⟩ q => ⟨i, j, kI_eq a, kI_eq b, q _ trivial⟩⟩
theorem s_ifE {P : Bool → Prop} (hc : JTE M X c σ H P) (h1 : ∀ H1, Xt M H H1 → WSs X body { D with nx := WSs X rest D } σ H1) (h2 : ∀ H1, Xt M H H1 → WSs X orelse { D with nx := WSs X rest D } σ H1) : WSs X (.If c body orelse pos :: rest) D σ H :=
  s_cons (ws_of (ps_if pt_wt pss_wss pss_wss) (hc H (Xt.refl H) _ fun t H1 y _ => by
    cases t with
    | true => exact h1 H1 y
    | false => exact h2 H1 y))
/-- a or b, when b may come out either way -/
theorem jte_or {t : Bool} (h : JT M X a σ H t) (h2 : JTE M X b σ H fun _ => True) : JTE M X (.BoolOp .Or [a, b] pos) σ H fun _ => True := fun H1 x Q q pins s I =>
  (ww_of (pw_or pt_wt pw_ww) (h H1 x _ fun H2 y => by
    cases t with
    | false => exact ww_of (pw_or1 pt_wt) (h2 H2 (x.trans y) Q fun b H3 z _ => q b H3 (y.trans z) trivial)
    | true => exact q true H2 y trivial) : WW X _ σ H1 Q) _ pins s I
end
section
variable {X : Cx} {a e : Expr} {σ : L2.St} {H : Hp} {pos p : Pos} {b c : Addr}
/-- a draw -/
theorem j_draw {E E' : Nat → Prop} (fD : FnK X.prog X.w X.K X.mg X.base "_law_draw" A43 2 spDr) (hr : Room 2 X.A) (hi : boxI b c H) (h1 : JK (MB b c) X a σ H (kE (.ref b))) (h2 : JK (MB b c) X e σ H (kN E)) (hE : ∀ m, E m → 0 < m ∧ m < 1073741824 ∧ ∀ d, d < m → E' d) (hg : Gl X "_law_draw" := by rfl)
    (he : starEach [a, e] X.env = (false, eval a X.env) :: starEach [e] X.env := by rfl) (he1 : starEach [e] X.env = (false, eval e X.env) :: starEach [] X.env := by rfl) (hpl : (backTo pos (starEach [e] X.env)).any (·.1) = false := by rfl) : JK (MB b c) X (.Call (.Name "_law_draw" p) [a, e] [] pos) σ H (kN E') :=
  j_call fD hr hg (ja_cons h1 (ja_cons h2 ja_nil he1) he) (fun vs H2 Q y k q => by
    obtain ⟨v, w, rfl, kv, m, em, rm⟩ := k2 k
    have kv : v = .ref b := kv
    obtain ⟨h0, h30, hd⟩ := hE m em
    refine ⟨b, c, (m : Int), y.inv hi, by omega, by omega, by rw [kv, kI_eq rm], fun d H' d0 dm x => q _ H' x ⟨d.toNat, hd _ (by omega), ?_⟩⟩
    have e : d = ((d.toNat : Nat) : Int) := by omega
    show Rp H' (.int d) (.int ((d.toNat : Nat) : Int))
    rw [← e]
    exact Rp.int d) (by decide) he hpl
end
section
variable {P : Program} {w : World} {K : PySem.W.Frag} {mg : Str → Option Value} {base : Heap} {f : Addr} {fd : FuncData}
def spCh : Sp := fun vs H Q _ => ∃ (b c : Addr) (n many most : Nat), boxI b c H ∧ (2 ≤ n ∧ n ≤ 1000 ∧ many ≤ 1000 ∧ 1 ≤ most ∧ most ≤ 1000) ∧ KAll [kE (.ref b), kI (n : Int), kI (many : Int), kI (most : Int)] H vs ∧ RetK (MB b c) (kX (fun cs : List Ch => cs.length = many ∧ ∀ x ∈ cs, chOk n x) dChs) H Q
theorem fnCh (B : Blt mg) (F : Fun K "_law_channels" "_law_channels" (topS 44) f fd) (hm : mg "_law_channels" = some (.ref f)) (fD : FnK P w K mg base "_law_draw" A43 2 spDr) : FnK P w K mg base "_law_channels" A44 3 spCh := by
  refine fn_sp F hm sc44 (fun vs H Q E ⟨_, _, _, _, _, _, _, h, _⟩ => kall_len h) (fun _ _ _ _ _ _ us hl => match us, hl with | [_, _, _, _], _ => rfl) fun cdv A outer s H vs Q E hr ⟨b, c, n, many, most, hi, ⟨hn2, hn3, hm1, hm2, hm3⟩, hk, hq⟩ => ?_
  obtain ⟨v0, v1, v2, v3, rfl, e0, k1, k2, k3⟩ := k4 hk
  have e0 : v0 = .ref b := e0
  subst e0
  refine s_asgL (M := MB b c) 4 sc44.nd j_lst0 fun pf xf H1 n1 x1 e1 r1 => ?_
  have hmp : ¬ (MB b c).m pf := Md.new (M := MB b c) hi n1
  have i1 := x1.inv hi
  refine s_for (M := MB b c) (pg_name (i := 5) sc44.nd rfl (Or.inl rfl)) (ji_rng (n := many) rfl B.range (j_var 2 rfl (Mn.mono x1 k2)) (by omega)) rfl fun H2 x2 => ?_
  refine ⟨fun j σ' H' => ∃ o5 o6 o7 xs cs, σ' = [some (.ref b), some v1, some v2, some v3, some (.ref pf), o5, o6, o7] ∧ OL H' pf xs (cs.map dCh) ∧ cs.length = j ∧ (∀ x ∈ cs, chOk n x) ∧ Xt (MB b c) H H' ∧ Tm H2 H', ⟨none, none, none, xf, [], rfl, (OL.upM ⟨e1, r1⟩ hmp x2), rfl, fun x h => (by cases h), x1.trans x2, Tm.refl _⟩, fun j σ' H' ⟨_, _, _, _, _, _, _, _, _, _, t⟩ => t, ?_, ?_⟩
  · rintro j dd v5 σ' H3 hj rv ⟨o5, o6, o7, xs, cs, rfl, o, hl, hc, x3, t3⟩
    show WSs _ _ _ _ _
    have i3 := x3.inv hi
    refine s_asg (M := MB b c) 6 sc44.nd (K := kN fun u => u < n) (j_draw fD hr i3 (j_var 0 rfl rfl) (j_N (j_var 1 rfl (Mn.mono x3 k1))) (fun m hm => by subst hm; exact ⟨by omega, by omega, fun d hd => hd⟩)) fun v6 H4 x4 k6 => ?_
    obtain ⟨u, hu, ku⟩ := k6
    have ku : kI (u : Int) H4 v6 := ku
    have x34 := x3.trans x4
    refine s_asg (M := MB b c) 7 sc44.nd (K := kN fun v => u < v ∧ v < u + n) (j_op (ok_addN (E := fun x => x = u + 1) (E' := fun x => x < n - 1) fun i j hi hj => by omega) (JK.imp (j_op ok_add (j_var 6 rfl ku) j_int) fun H v k => ⟨u + 1, rfl, by rw [show dI (u + 1) = .int ((u : Int) + 1) by unfold dI; congr 1]; exact k⟩) (j_draw (E := fun x => x = n - 1) fD hr (x34.inv hi) (j_var 0 rfl rfl) (JK.imp (j_op ok_sub (j_var 1 rfl (Mn.mono x34 k1)) j_int) fun H v k => ⟨n - 1, rfl, by rw [show dI (n - 1) = .int ((n : Int) - 1) by unfold dI; congr 1; omega]; exact k⟩) (fun m hm => by subst hm; exact ⟨by omega, by omega, fun d hd => hd⟩))) fun v7 H5 x5 k7 => ?_
    obtain ⟨vv, hvv, kv⟩ := k7
    have kv : kI (vv : Int) H5 v7 := kv
    have x35 := x34.trans x5
    have o5' := o.upM hmp (x4.trans x5)
    refine s_append (M := MB b c) 4 (K := kX (chOk n) dCh) rfl o5'.1 (j_chX (u := u) (v := if vv < n then vv else vv - n) (j_var 6 rfl (Mn.mono (M := MB b c) x5 ku)) (j_if (t := decide ((vv : Int) < (n : Int))) (jt_cmp ok_lt (j_var 7 rfl kv) (j_var 1 rfl (Mn.mono x35 k1))) (fun q => ?_) fun q => ?_) (j_op (ok_addN (E := fun x => x = 1) (E' := fun x => x < most) (E'' := fun r => 1 ≤ r ∧ r ≤ most) fun i j hi hj => by omega) (j_N (n := 1) j_int) (j_draw fD hr (x35.inv hi) (j_var 0 rfl rfl) (j_N (j_var 3 rfl (Mn.mono x35 k3))) (fun m hm => by subst hm; exact ⟨by omega, by omega, fun d hd => hd⟩))) fun r hr => ⟨hu, ?_, hr.1, by show r ≤ 1000; omega⟩) ?_ hmp fun v8 H6 x6 k8 e6 => ?_
    · rw [if_pos (by have := of_decide_eq_true q; omega)]
      exact j_var 7 rfl kv
    · have hge : ¬ vv < n := by have := of_decide_eq_false q; omega
      rw [if_neg hge]
      have e : ((vv - n : Nat) : Int) = (vv : Int) - (n : Int) := by omega
      rw [e]
      exact j_op ok_sub (j_var 7 rfl kv) (j_var 1 rfl (Mn.mono x35 k1))
    · show (if vv < n then vv else vv - n) < n
      split <;> omega
    · rw [o5'.len, List.length_map, hl]
      have := (List.getElem?_eq_some_iff.mp hj).1
      rw [rangeD_len] at this
      omega
    · obtain ⟨ch, hch, rch⟩ := k8
      have o6' := (o5'.upM hmp x6).app rch
      refine s_nil ⟨some v5, some v6, some v7, xs ++ [v8], cs ++ [ch], rfl, ?_, by rw [List.length_append, hl]; rfl, fun x hx => ?_, (x35.trans x6).mut n1, (((t3.trans x4.tm).trans x5.tm).trans x6.tm).trans (Tm.lst e6)⟩
      · rw [List.map_append]
        exact o6'
      · rcases List.mem_append.mp hx with h | h
        · exact hc x h
        · rw [List.mem_singleton.mp h]; exact hch
  · rintro σ' H3 ⟨o5, o6, o7, xs, cs, rfl, o, hl, hc, x3, t3⟩
    rw [rangeD_len] at hl
    refine s_ret (M := MB b c) (j_tupL B (j_var 4 rfl (o.klM hmp))) fun v H4 x4 k => hq v H4 (x3.trans x4) ⟨cs, ⟨hl, hc⟩, k⟩
end
end K68

set_option Elab.async false
set_option linter.all false
set_option maxRecDepth 100000
set_option maxHeartbeats 1000000
/-! K68, text C5: _law_ring, _law_away. -/
namespace K68
open PySem PySem.Spec L2
open PyProof.Rows hiding St
structure NetOk (F : Fab) : Prop where
  n1 : 2 ≤ F.n
  n4 : F.n ≤ 4
  m6 : F.m ≤ 6
  ch : ∀ x ∈ F.ch, chOk F.n x
section
variable {P : Program} {w : World} {K : PySem.W.Frag} {mg : Str → Option Value} {base : Heap} {f : Addr} {fd : FuncData}
def spRi : Sp := fun vs H Q _ => ∃ (b c : Addr) (n most : Nat), boxI b c H ∧ (2 ≤ n ∧ n ≤ 1000 ∧ 1 ≤ most ∧ most ≤ 1000) ∧ KAll [kE (.ref b), kI (n : Int), kI (most : Int)] H vs ∧ RetK (MB b c) (kX (fun cs : List Ch => ∀ x ∈ cs, chOk n x) dChs) H Q
theorem fnRi (B : Blt mg) (F : Fun K "_law_ring" "_law_ring" (topS 45) f fd) (hm : mg "_law_ring" = some (.ref f)) (fD : FnK P w K mg base "_law_draw" A43 2 spDr) (fC : FnK P w K mg base "_law_channels" A44 3 spCh) : FnK P w K mg base "_law_ring" A45 4 spRi := by
  refine fn_sp F hm sc45 (fun vs H Q E ⟨_, _, _, _, _, _, h, _⟩ => kall_len h) (fun _ _ _ _ _ _ us hl => match us, hl with | [_, _, _], _ => rfl) fun cdv A outer s H vs Q E hr ⟨b, c, n, most, hi, ⟨hn2, hn3, hm2, hm3⟩, hk, hq⟩ => ?_
  obtain ⟨v0, v1, v2, rfl, e0, k1, k2⟩ := k3 hk
  have e0 : v0 = .ref b := e0
  subst e0
  have hr2 : Room 2 (DX P w K mg base N45 "_law_ring" (topS 45) f cdv A outer s H E).A := hr.mono (by decide)
  refine s_asgLcR (M := MB b c) 3 (bs := List.range n) (enc := dI) (gg := dCh) (I := fun i acc => acc.length = i ∧ ∀ x ∈ acc, chOk n x) (Pt := fun _ t => t = true) (Pe := fun _ x => chOk n x) rfl sc45.nd bk45_0 (fun s H C cl fp => pg_name (i := 4) sc45.nd rfl (Or.inl rfl)) (JI.x (ji_rng rfl B.range (j_var 1 rfl k1) (by omega))) (by rw [List.length_range]; omega) (tg_name fun v => rfl) (fun H1 u σ2 x hb gd s0 H0 C cl fp => jtes_nil) (fun H1 u σ2 x hb gd => ?_) ⟨rfl, fun x h => (by cases h)⟩ (fun i acc h => by omega) (fun i u acc hb hI ht => by cases ht) (fun i u acc x hb hI ht hx => ⟨by rw [List.length_append, hI.1]; rfl, fun y hy => (List.mem_append.mp hy).elim (hI.2 y) fun h => by rw [List.mem_singleton.mp h]; exact hx⟩) hi fun pf xs H1 cs n1 x1 e1 r1 hI => ?_
  · obtain ⟨v9, hv9, rfl⟩ := gd
    intro s0 H0 C cl fp
    have hu := List.mem_range.mp hb
    have hv9 : kI (u : Int) H1 v9 := hv9
    refine j_chX (u := u) (v := if u + 1 < n then u + 1 else 0) (j_var 4 rfl hv9) (j_if (t := decide ((u : Int) + 1 < (n : Int))) (jt_cmp ok_lt (j_op ok_add (j_var 4 rfl hv9) j_int) (j_var 1 rfl (Mn.mono x k1))) (fun q => ?_) fun q => ?_) (j_op (ok_addN (E := fun x => x = 1) (E' := fun x => x < most) (E'' := fun r => 1 ≤ r ∧ r ≤ most) fun i j hi hj => by omega) (j_N (n := 1) j_int) (j_draw fD (by exact hr2) (x.inv hi) (j_var 0 rfl rfl) (j_N (j_var 2 rfl (Mn.mono x k2))) (fun m hm => by subst hm; exact ⟨by omega, by omega, fun d hd => hd⟩))) fun r hr => ⟨hu, ?_, hr.1, by show r ≤ 1000; omega⟩
    · rw [if_pos (by have := of_decide_eq_true q; omega)]
      have e : ((u + 1 : Nat) : Int) = (u : Int) + 1 := by omega
      rw [e]
      exact j_op ok_add (j_var 4 rfl hv9) j_int
    · rw [if_neg (by have := of_decide_eq_false q; omega)]
      exact j_int
    · show (if u + 1 < n then u + 1 else 0) < n
      split <;> omega
  · have hmp : ¬ (MB b c).m pf := Md.new (M := MB b c) hi n1
    have i1 := x1.inv hi
    rw [List.length_range] at hI
    have kl : kL (MB b c) (cs.map dCh) H1 (.ref pf) := ⟨pf, xs, rfl, e1, r1, hmp⟩
    refine s_ret (M := MB b c) (j_op (ok_catC (E := fun cs => cs.length = n ∧ ∀ x ∈ cs, chOk n x) (E' := fun cs => cs.length ≤ 1000 ∧ ∀ x ∈ cs, chOk n x) (E'' := fun cs => ∀ x ∈ cs, chOk n x) (fun i j hi hj x hx => (List.mem_append.mp hx).elim (hi.2 x) (hj.2 x)) fun i j hi hj => by omega) (JK.imp (j_tupL B (j_var 3 rfl kl)) fun H v k => ⟨cs, hI, k⟩)
      (j_call fC hr (by rfl) (ja_cons (K := kE (.ref b)) (j_var 0 rfl rfl) (ja_cons (j_var 1 rfl (Mn.mono x1 k1)) (ja_cons (K := kN fun d => d < 3) (j_draw fD hr2 i1 (j_var 0 rfl rfl) (j_N (n := 3) j_int) (fun m hm => by subst hm; exact ⟨by omega, by omega, fun d hd => hd⟩)) (ja_cons (j_var 2 rfl (Mn.mono x1 k2)) ja_nil)))) fun vs H2 Q y k q => ?_)) fun v H4 x4 k => hq v H4 (x1.trans x4) k
    obtain ⟨w0, w1, w2, w3, rfl, q0, q1, ⟨d, hd, q2⟩, q3⟩ := k4 k
    exact ⟨b, c, n, d, most, y.inv i1, ⟨hn2, hn3, by omega, hm2, hm3⟩, ⟨_, _, rfl, q0, _, _, rfl, q1, _, _, rfl, q2, _, _, rfl, q3, rfl⟩, fun v H3 z k => q v H3 z (by
      obtain ⟨cs, ⟨h1, h2⟩, k⟩ := k
      exact ⟨cs, ⟨by omega, h2⟩, k⟩)⟩
/-- numbers, one for each node -/
def spAy : Sp := fun vs H Q _ => ∃ (F : Fab) (d : Nat), NetOk F ∧ KAll [kD F.dNet, kI (d : Int)] H vs ∧ ∀ p (ns : List Int) H', H p = none → Xt M0 H H' → ns.length = F.n → H' p = some (.lst (ns.map V.int)) → Q (.ref p) H'
theorem fnAy (B : Blt mg) (F : Fun K "_law_away" "_law_away" (topS 46) f fd) (hm : mg "_law_away" = some (.ref f)) : FnK P w K mg base "_law_away" A46 1 spAy := by
  refine fn_sp F hm sc46 (fun vs H Q E ⟨_, _, _, h, _⟩ => kall_len h) (fun _ _ _ _ _ _ us hl => match us, hl with | [_, _], _ => rfl) fun cdv A outer s H vs Q E hr ⟨F, d, ok, hk, hq⟩ => ?_
  obtain ⟨a, b, rfl, ha, hb⟩ := k2 hk
  have ha : kD F.dNet H a := ha
  have hb : kI (d : Int) H b := hb
  have h4 := ok.n4
  refine s_asgLc (M := M0) 2 (bs := List.range F.n) (enc := dI) (gg := fun u => .int (if (u : Int) = (d : Int) then 0 else 99)) (f := fun _ => true) rfl sc46.nd bk46_0 (fun s H C cl fp => pg_name (i := 7) sc46.nd rfl (Or.inl rfl)) (JI.x (ji_rng rfl B.range (j_n0 (j_var 0 rfl ha)) (by omega))) (by rw [List.length_range]; omega) (tg_name fun v => rfl) trivial (fun H1 u σ2 x hb gd => jbts_nil) (fun H1 u σ2 x hb' gd _ => ?_) fun pf xs H1 n1 x1 e1 r1 => ?_
  · obtain ⟨v9, hv9, rfl⟩ := gd
    intro s0 H0 C cl fp
    refine j_if (t := decide ((u : Int) = (d : Int))) (jt_cmp ok_eqI (j_var 7 rfl (K := kI (u : Int)) hv9) (j_var 1 rfl (Mn.mono x hb))) (fun q => ?_) fun q => ?_
    · rw [if_pos (of_decide_eq_true q)]; exact j_int
    · rw [if_neg (of_decide_eq_false q)]; exact j_int
  rw [filter_T] at r1
  have hxs : ∃ ns : List Int, ns.length = F.n ∧ xs = ns.map V.int := ⟨(List.range F.n).map fun (u : Nat) => if (u : Int) = (d : Int) then 0 else 99, by rw [List.length_map, List.length_range], by
    have e : ((List.range F.n).map fun (u : Nat) => PyData.int (if (u : Int) = (d : Int) then 0 else 99)) = ((List.range F.n).map fun (u : Nat) => if (u : Int) = (d : Int) then (0 : Int) else 99).map .int := by rw [List.map_map]; rfl
    rw [e] at r1
    exact RpL.ints r1⟩
  obtain ⟨ns0, hl0, rfl⟩ := hxs
  refine s_for (M := M0) (pg_name (i := 3) sc46.nd rfl (Or.inl rfl)) (ji_rng (n := F.n) rfl B.range (j_n0 (j_var 0 rfl (Mn.mono x1 ha))) (by omega)) rfl fun H2 x2 => ?_
  refine ⟨fun j σ' H' => ∃ o3 o4 o5 o6 ns, σ' = [some a, some b, some (.ref pf), o3, o4, o5, o6, none] ∧ H' pf = some (.lst (ns.map V.int)) ∧ ns.length = F.n ∧ Xt M0 H H' ∧ Tm H2 H', ⟨none, none, none, none, ns0, rfl, x2.keep _ _ e1 (nt_lst _) id, hl0, x1.trans x2, Tm.refl _⟩, fun j σ' H' ⟨_, _, _, _, _, _, _, _, _, t⟩ => t, ?_, ?_⟩
  · rintro j dd v3 σ' H3 hj rv ⟨o3, o4, o5, o6, ns, rfl, e3, hl, x3, t3⟩
    show WSs _ _ _ _ _
    refine s_for (M := M0) (pg_tup rfl (pgs_cons (pg_name (i := 4) sc46.nd rfl (Or.inl rfl)) (pgs_cons (pg_name (i := 5) sc46.nd rfl (Or.inl rfl)) (pgs_cons (pg_name (i := 6) sc46.nd rfl (Or.inl rfl)) pgs_nil)))) (ji_tup (j_n1 (j_var 0 rfl (Mn.mono x3 ha)))) rfl fun H4 x4 => ?_
    refine ⟨fun k σ' H' => ∃ o4 o5 o6 ns, σ' = [some a, some b, some (.ref pf), some v3, o4, o5, o6, none] ∧ H' pf = some (.lst (ns.map V.int)) ∧ ns.length = F.n ∧ Xt M0 H H' ∧ Tm H2 H' ∧ Tm H4 H', ⟨o4, o5, o6, ns, rfl, x4.keep _ _ e3 (nt_lst _) id, hl, x3.trans x4, t3.trans x4.tm, Tm.refl _⟩, fun j σ' H' ⟨_, _, _, _, _, _, _, _, _, t⟩ => t, ?_, ?_⟩
    · rintro k dk v σ' H5 hk5 rv5 ⟨o4, o5, o6, ns, rfl, e5, hl5, x5, t5, t5'⟩
      have hk0 : (F.ch.map dCh)[k]? = some dk := hk5
      rw [List.getElem?_map] at hk0
      obtain ⟨x, hk1, rfl⟩ := Option.map_eq_some_iff.mp hk0
      obtain ⟨hu, hv, _⟩ := ok.ch x (List.mem_of_getElem? hk1)
      refine g_three rv5 fun w1 w2 w3 r1 r2 r3 => ?_
      have r1 : kI (x.u : Int) H5 w1 := r1
      have r2 : kI (x.v : Int) H5 w2 := r2
      show WSs _ _ _ _ _
      have gu : atI (ns.map V.int) (x.u : Int) = some (.int (ns.getD x.u 0)) := atI_nat (by rw [List.getElem?_map, getD_get (show x.u < ns.length by omega) 0]; rfl)
      have gv : atI (ns.map V.int) (x.v : Int) = some (.int (ns.getD x.v 0)) := atI_nat (by rw [List.getElem?_map, getD_get (show x.v < ns.length by omega) 0]; rfl)
      refine s_setL (M := M0) (j := x.u) (K := kI (if ns.getD x.v 0 + 1 < ns.getD x.u 0 then ns.getD x.v 0 + 1 else ns.getD x.u 0)) (j_callB (ck_min2 rfl) rfl B.min bt_min (ja_cons (j_ix (ix_ownI gu) (j_var 2 rfl ⟨rfl, e5, id⟩) (j_var 4 rfl r1)) (ja_cons (j_op ok_add (j_ix (ix_ownI gv) (j_var 2 rfl ⟨rfl, e5, id⟩) (j_var 5 rfl r2)) j_int) ja_nil)) (by decide) (by decide) rfl rfl) (j_var 2 rfl rfl) e5 (j_var 4 rfl r1) (by rw [List.length_map]; omega) id fun v6 H6 x6 k6 e6 => ?_
      rw [kI_eq k6]
      refine s_nil ⟨some w1, some w2, some w3, ns.set x.u (if ns.getD x.v 0 + 1 < ns.getD x.u 0 then ns.getD x.v 0 + 1 else ns.getD x.u 0), rfl, ?_, by rw [List.length_set]; exact hl5, (x5.trans x6).mut n1, (t5.trans x6.tm).trans (Tm.lst e6), (t5'.trans x6.tm).trans (Tm.lst e6)⟩
      rw [← List.map_set]
      exact upd_same
    · rintro σ' H5 ⟨o4, o5, o6, ns, rfl, e5, hl5, x5, t5, t5'⟩
      exact s_nil ⟨some v3, o4, o5, o6, ns, rfl, e5, hl5, x5, t5⟩
  · rintro σ' H3 ⟨o3, o4, o5, o6, ns, rfl, e3, hl, x3, t3⟩
    refine s_ret (M := M0) (K := kE (.ref pf)) (j_var 2 rfl rfl) fun v H4 x4 k => ?_
    have k : v = .ref pf := k
    subst k
    exact hq pf ns H4 n1 (x3.trans x4) hl (x4.keep _ _ e3 (nt_lst _) id)
end
end K68

set_option Elab.async false
set_option linter.all false
set_option maxRecDepth 100000
set_option maxHeartbeats 1000000
/-! K68, text C6: _law_thin. -/
namespace K68
open PySem PySem.Spec L2
open PyProof.Rows hiding St
def dTbl (tb : List (List (List Nat))) : PyData := .tuple (tb.map dRow)
def tabOf (n : Nat) (g : Nat → Nat → List Nat) : List (List (List Nat)) := (List.range n).map fun u => (List.range n).map (g u)
theorem Fab.Ok.net {F : Fab} (h : F.Ok) (h2 : 2 ≤ F.n) : NetOk F := ⟨h2, h.n4, h.m6, h.ch⟩
theorem getD_map {β : Type} {n i : Nat} {f : Nat → β} {x : β} : ((List.range n).map f).getD i x = if i < n then f i else x := by
  rw [List.getD_eq_getElem?_getD, List.getElem?_map]
  by_cases h : i < n
  · rw [List.getElem?_range h, if_pos h]; rfl
  · rw [List.getElem?_eq_none (by rw [List.length_range]; omega), if_neg h]; rfl
theorem tab_op {n : Nat} {g : Nat → Nat → List Nat} {u d : Nat} : ((tabOf n g).getD u []).getD d [] = if u < n ∧ d < n then g u d else [] := by
  unfold tabOf
  rw [getD_map]
  by_cases hu : u < n
  · rw [if_pos hu, getD_map]
    by_cases hd : d < n
    · rw [if_pos hd, if_pos ⟨hu, hd⟩]
    · rw [if_neg hd, if_neg (fun z => hd z.2)]
  · rw [if_neg hu, if_neg (fun z => hu z.1)]
    rfl
theorem tab_ok {F : Fab} (ok : NetOk F) {g : Nat → Nat → List Nat} (hg : ∀ u d, u < F.n → d < F.n → (g u d).Nodup ∧ ∀ c ∈ g u d, c < F.m ∧ (F.C c).u = u) : (⟨F.n, F.ch, tabOf F.n g⟩ : Fab).Ok := by
  have hop : ∀ u d, (⟨F.n, F.ch, tabOf F.n g⟩ : Fab).op u d = if u < F.n ∧ d < F.n then g u d else [] := fun u d => tab_op
  refine ⟨by have := ok.n1; show 1 ≤ F.n; omega, ok.n4, ok.m6, ok.ch, by show (tabOf F.n g).length = F.n; unfold tabOf; rw [List.length_map, List.length_range], fun row hrow => ?_, fun u d c hc => ?_, fun u d => ?_⟩
  · obtain ⟨u, _, rfl⟩ := List.mem_map.mp hrow
    rw [List.length_map, List.length_range]
  · rw [hop] at hc
    by_cases h : u < F.n ∧ d < F.n
    · rw [if_pos h] at hc
      exact (hg u d h.1 h.2).2 c hc
    · rw [if_neg h] at hc
      cases hc
  · rw [hop]
    by_cases h : u < F.n ∧ d < F.n
    · rw [if_pos h]; exact (hg u d h.1 h.2).1
    · rw [if_neg h]; exact List.nodup_nil
theorem bk47_0 {env : Env} (h : env.scope = defScope (topS 47)) : BlkOk N47 (relabel S47_1 env) S47_0 O47_0 := by
  refine ⟨rfl, by decide +kernel, by decide +kernel, fun y hy hf => ?_, by decide +kernel⟩
  have e : (relabel S47_1 env).names = (relabel S47_1 { env with scope := defScope (topS 47) }).names := by
    unfold relabel Env.kindOf
    rw [h]
  rw [e]
  simp only [List.mem_cons, List.mem_nil_iff, or_false] at hy
  rcases hy with rfl | rfl | rfl | rfl
  · cases hf
  · cases hf
  · exact .inl rfl
  · exact .inl rfl
def dAl (al : List (List Bool)) : List (List PyData) := al.map fun r => r.map PyData.bool
structure AlOk (n : Nat) (al : List (List Bool)) : Prop where
  len : al.length = n
  row : ∀ r ∈ al, r.length = n
def alG (al : List (List Bool)) (u d : Nat) : Bool := (al.getD u []).getD d false
theorem AlOk.get {n : Nat} {al : List (List Bool)} (h : AlOk n al) {u : Nat} (hu : u < n) : al[u]? = some (al.getD u []) ∧ (al.getD u []).length = n := by
  have e := getD_get (l := al) (i := u) (by rw [h.len]; exact hu) []
  exact ⟨e, h.row _ (List.mem_of_getElem? e)⟩
theorem AlOk.dget {n : Nat} {al : List (List Bool)} (h : AlOk n al) {u : Nat} (hu : u < n) : (dAl al)[u]? = some ((al.getD u []).map PyData.bool) := by
  unfold dAl
  rw [List.getElem?_map, (h.get hu).1]
  rfl
theorem AlOk.at {n : Nat} {al : List (List Bool)} (h : AlOk n al) {u d : Nat} (hu : u < n) (hd : d < n) : (al.getD u [])[d]? = some (alG al u d) := getD_get (by rw [(h.get hu).2]; exact hd) false
section
variable {M : Md} {X : Cx} {a b c : Expr} {σ : L2.St} {H : Hp} {pos pos2 : Pos}
theorem j_al {n : Nat} {al : List (List Bool)} (h : AlOk n al) {u d : Nat} (hu : u < n) (hd : d < n) (ha : JK M X a σ H (kLL M (dAl al))) (hb : JK M X b σ H (kI (u : Int))) (hc : JK M X c σ H (kI (d : Int))) (hp : PlainIx b := by intro _ _; rfl) (hp2 : PlainIx c := by intro _ _; rfl) : JK M X (.Subscript (.Subscript a b pos) c pos2) σ H (kB (alG al u d)) :=
  j_litem (i := (d : Int)) (atI_map (h.at hu hd)) (j_ix (ix_ll (h.dget hu)) ha hb hp) hc hp2
end
theorem RpL.set {H : Hp} {v : V} {d : PyData} (hr : Rp H v d) : ∀ {vs : List V} {ds : List PyData} (i : Nat), RpL H vs ds → RpL H (vs.set i v) (ds.set i d)
  | _, _, i, .nil => .nil
  | _ :: _, _ :: _, 0, .cons r rs => .cons hr rs
  | _ :: _, _ :: _, i + 1, .cons r rs => .cons r (RpL.set hr i rs)
theorem AlOk.put {n : Nat} {al : List (List Bool)} (h : AlOk n al) {u d : Nat} (hu : u < n) : AlOk n (al.set u ((al.getD u []).set d false)) := by
  refine ⟨by rw [List.length_set]; exact h.len, fun r hr => ?_⟩
  rcases List.mem_or_eq_of_mem_set hr with z | z
  · exact h.row r z
  · rw [z, List.length_set]; exact (h.get hu).2
/-- what stays of a row -/
def thF (F : Fab) (al : List (List Bool)) (d c : Nat) : Bool := decide (((F.C c).v : Int) = (d : Int)) || alG al (F.C c).v d
section
variable {P : Program} {w : World} {K : PySem.W.Frag} {mg : Str → Option Value} {base : Heap} {f : Addr} {fd : FuncData}
def spTh : Sp := fun vs H Q _ => ∃ F : Fab, F.Ok ∧ 2 ≤ F.n ∧ KAll [kD F.dNet, kD F.dTb] H vs ∧ RetK M0 (kX (fun tb => (⟨F.n, F.ch, tb⟩ : Fab).Ok) dTbl) H Q
theorem fnTh (B : Blt mg) (F : Fun K "_law_thin" "_law_thin" (topS 47) f fd) (hm : mg "_law_thin" = some (.ref f)) : FnK P w K mg base "_law_thin" A47 1 spTh := by
  refine fn_sp F hm sc47 (fun vs H Q E ⟨_, _, _, h, _⟩ => kall_len h) (fun _ _ _ _ _ _ us hl => match us, hl with | [_, _], _ => rfl) fun cdv A outer s H vs Q E hr ⟨F, ok, h2, hk, hq⟩ => ?_
  obtain ⟨a, b, rfl, ha, hb⟩ := k2 hk
  have ha : kD F.dNet H a := ha
  have hb : kD F.dTb H b := hb
  have h4 := ok.n4
  have h6 := ok.m6
  have hu64 : (DX P w K mg base N47 "_law_thin" (topS 47) f cdv A outer s H E).A.units + 64 < cLine := by have := hr.un; omega
  refine s_asg (M := M0) 2 sc47.nd (j_n0 (j_var 0 rfl ha)) fun v2 H1 x1 k2 => ?_
  have k2 : kI (F.n : Int) H1 v2 := k2
  refine s_asgLL (M := M0) 5 (dss := (List.range F.n).map fun (u : Nat) => (List.range F.n).map fun (d : Nat) => .bool (!decide ((u : Int) = (d : Int)) && !decide ((F.op u d).map dI = []))) sc47.nd (j_lcF (bs := List.range F.n) (enc := dI) rfl sc47.nd bk47_1 (fun s H C cl fp => pg_name (i := 3) sc47.nd rfl (Or.inr rfl)) (JI.x (ji_rng rfl B.range (j_var 2 rfl k2) (by omega))) (by rw [List.length_range]; omega) (tg_name fun v => rfl) (fun H2 u σ2 x hu gd => ?_)) fun pa qs H2 x2 o2 => ?_
  · obtain ⟨v9, hv9, rfl⟩ := gd
    intro s0 H0 C cl fp
    have hu := List.mem_range.mp hu
    refine j_lcT (bs := List.range F.n) (enc := dI) (own := O47_0) rfl sc47.nd (bk47_0 rfl) (fun s H C cl fp => pg_name (i := 4) sc47.nd rfl (Or.inl rfl)) (JI.x (ji_rng rfl B.range (j_var 2 rfl (Mn.mono (M := M0) x k2)) (by omega))) (by rw [List.length_range]; omega) (tg_name fun v => rfl) (fun H3 d σ3 x3 hd gd => ?_)
    obtain ⟨v8, hv8, rfl⟩ := gd
    intro s0 H0 C cl fp
    have hd := List.mem_range.mp hd
    have hv9' : kI (u : Int) H3 v9 := Mn.mono (M := M0) (K := kI (u : Int)) x3 hv9
    have hv8 : kI (d : Int) H3 v8 := hv8
    exact j_and (j_cmp ok_neI (j_var 3 rfl hv9') (j_var 4 rfl hv8)) fun _ => j_one (j_cmp (ok_neT0 (ds := (F.op u d).map dI) (fun e he => by obtain ⟨y, _, rfl⟩ := List.mem_map.mp he; exact ⟨rfl, by unfold dI; simp only [PyData.depth]; omega⟩) (by exact hu64)) (j_op2 ok hu hd (j_var 1 rfl (Mn.mono ((x1.trans x).trans x3) hb)) (j_var 3 rfl hv9') (j_var 4 rfl hv8)) j_tup0)
  have x02 := x1.trans x2
  obtain ⟨al0, hal0, e0⟩ : ∃ al0, AlOk F.n al0 ∧ ((List.range F.n).map fun (u : Nat) => (List.range F.n).map fun (d : Nat) => PyData.bool (!decide ((u : Int) = (d : Int)) && !decide ((F.op u d).map dI = []))) = dAl al0 := ⟨(List.range F.n).map fun (u : Nat) => (List.range F.n).map fun (d : Nat) => (!decide ((u : Int) = (d : Int)) && !decide ((F.op u d).map dI = [])), ⟨by rw [List.length_map, List.length_range], fun r hr => by
    obtain ⟨u, _, rfl⟩ := List.mem_map.mp hr
    rw [List.length_map, List.length_range]⟩, by
    unfold dAl
    rw [List.map_map]
    refine List.map_congr_left fun u _ => ?_
    show _ = List.map PyData.bool (List.map _ _)
    rw [List.map_map]
    rfl⟩
  rw [e0] at o2
  have o2 : OLL M0 H H2 pa qs (dAl al0) := ⟨x1.free _ o2.np, fun q hq => x1.free _ (o2.nq q hq), o2.mp, o2.mq, o2.loc, o2.nd, o2.len, o2.inn⟩
  have k22 := Mn.mono (M := M0) x2 k2
  have kn : ∀ H', kI (F.n : Int) H' v2 := fun H' => by rw [kI_eq k2]; exact kI_of
  have hnn : ((F.n * F.n : Nat) : Int) = (F.n : Int) * (F.n : Int) := Int.natCast_mul _ _
  have hnn2 : F.n * F.n ≤ 16 := Nat.mul_le_mul h4 h4
  refine s_for (M := M0) (pg_name (i := 6) sc47.nd rfl (Or.inl rfl)) (ji_rng (n := F.n * F.n) rfl B.range (by rw [hnn]; exact j_op (ok_mul (.inl ⟨by omega, by omega⟩)) (j_var 2 rfl k22) (j_var 2 rfl k22)) (by omega)) rfl fun H3 x3 => ?_
  have x03 := x02.trans x3
  refine ⟨fun j σ' H' => ∃ o3 o4 o6 o7 al, σ' = [some a, some b, some v2, o3, o4, some (.ref pa), o6, o7, none, none, none, none] ∧ OLL M0 H H' pa qs (dAl al) ∧ AlOk F.n al ∧ Xt M0 H H' ∧ Tm H3 H', ⟨none, none, none, none, al0, rfl, o2.up x3, hal0, x03, Tm.refl _⟩, fun j σ' H' ⟨_, _, _, _, _, _, _, _, _, t⟩ => t, ?_, ?_⟩
  · rintro j dd v6 σ' H4 hj rv ⟨o3, o4, o6, o7, al, rfl, o, hal, x4, t4⟩
    show WSs _ _ _ _ _
    refine s_for (M := M0) (pg_name (i := 3) sc47.nd rfl (Or.inl rfl)) (ji_rng (n := F.n) rfl B.range (j_var 2 rfl (kn _)) (by omega)) rfl fun H5 x5 => ?_
    refine ⟨fun j σ' H' => ∃ o3 o4 o7 al, σ' = [some a, some b, some v2, o3, o4, some (.ref pa), some v6, o7, none, none, none, none] ∧ OLL M0 H H' pa qs (dAl al) ∧ AlOk F.n al ∧ Xt M0 H H' ∧ Tm H3 H' ∧ Tm H5 H', ⟨o3, o4, o7, al, rfl, o.up x5, hal, x4.trans x5, t4.trans x5.tm, Tm.refl _⟩, fun j σ' H' ⟨_, _, _, _, _, _, _, _, _, t⟩ => t, ?_, ?_⟩
    · rintro u du v3 σ' H6 hu6 rv3 ⟨o3, o4, o7, al, rfl, o, hal, x6, t6, t6'⟩
      have hu : u < F.n := by
        have := (List.getElem?_eq_some_iff.mp hu6).1
        rw [rangeD_len] at this; exact this
      rw [rangeD_at hu] at hu6
      cases hu6
      have rv3 : kI (u : Int) H6 v3 := rv3
      show WSs _ _ _ _ _
      refine s_for (M := M0) (pg_name (i := 4) sc47.nd rfl (Or.inr rfl)) (ji_rng (n := F.n) rfl B.range (j_var 2 rfl (kn _)) (by omega)) rfl fun H7 x7 => ?_
      refine ⟨fun j σ' H' => ∃ o4 o7 al, σ' = [some a, some b, some v2, some v3, o4, some (.ref pa), some v6, o7, none, none, none, none] ∧ OLL M0 H H' pa qs (dAl al) ∧ AlOk F.n al ∧ Xt M0 H H' ∧ Tm H3 H' ∧ Tm H5 H' ∧ Tm H7 H', ⟨o4, o7, al, rfl, o.up x7, hal, x6.trans x7, t6.trans x7.tm, t6'.trans x7.tm, Tm.refl _⟩, fun j σ' H' ⟨_, _, _, _, _, _, _, _, _, t⟩ => t, ?_, ?_⟩
      · rintro d dd4 v4 σ' H8 hd8 rv4 ⟨o4, o7, al, rfl, o, hal, x8, t8, t8', t8''⟩
        have hd : d < F.n := by
          have := (List.getElem?_eq_some_iff.mp hd8).1
          rw [rangeD_len] at this; exact this
        rw [rangeD_at hd] at hd8
        cases hd8
        have rv4 : kI (d : Int) H8 v4 := rv4
        have ru8 : kI (u : Int) H8 v3 := Rp.tm (x7.tm.trans t8'') _ rv3
        have hops : ∀ c ∈ F.op u d, c < F.m := fun c hc => (ok.op u d c hc).1
        have hopl : (F.op u d).length ≤ 6 := by
          have := nodup_le _ (List.range F.m) (ok.nd u d) fun c hc => List.mem_range.mpr (hops c hc)
          rw [List.length_range] at this
          omega
        show WSs _ _ _ _ _
        refine s_asgLc (M := M0) 7 (bs := F.op u d) (enc := dI) (gg := fun c => dI (F.C c).v) (f := fun _ => true) rfl sc47.nd bk47_2 (fun s H C cl fp => pg_name (i := 10) sc47.nd rfl (Or.inl rfl)) (JI.x (ji_tup (j_op2 ok hu hd (j_var 1 rfl (Mn.mono x8 hb)) (j_var 3 rfl ru8) (j_var 4 rfl rv4)))) (by omega) (tg_name fun v => rfl) trivial (fun H1 u σ2 x hb gd => jbts_nil) (fun H9 c σ2 x9 hc gd _ => ?_) fun pe xe H9 n9 x9 e9 r9 => ?_
        · obtain ⟨v9, hv9, rfl⟩ := gd
          intro s0 H0 C cl fp
          exact j_c1 (j_ch (hops c hc) (j_n1 (j_var 0 rfl (Mn.mono (x8.trans x9) ha))) (j_var 10 rfl (K := kI (c : Int)) hv9))
        rw [filter_T] at r9
        have ke : kL M0 ((F.op u d).map fun c => dI (F.C c).v) H9 (.ref pe) := ⟨pe, xe, rfl, e9, r9, id⟩
        have o9 := o.up x9
        have ru9 := Mn.mono (M := M0) x9 ru8
        have rv49 := Mn.mono (M := M0) x9 rv4
        refine s_when (M := M0) (t := alG al u d && !(((F.op u d).map (thF F al d)).any id)) (jt_and (jt_val (j_al hal hu hd (j_var 5 rfl o9.k) (j_var 3 rfl ru9) (j_var 4 rfl rv49))) fun _ => jt_not (jt_val (j_callB (ck_any rfl) rfl B.any bt_any (ja_cons (JL.k (JL.is (j_lcT (bs := F.op u d) (enc := fun c => dI (F.C c).v) (gg := fun c => .bool (thF F al d c)) rfl sc47.nd bk47_3 (fun s H C cl fp => pg_name (i := 11) sc47.nd rfl (Or.inl rfl)) (JIL.x (jil_of (j_var 7 rfl ke))) (by omega) (tg_name fun v => rfl) (fun H10 c σ2 x10 hc gd => ?_)) (by rw [List.map_map]; rfl))) ja_nil) (by decide) (by decide) rfl rfl))) (fun q H10 x10 => ?_) fun q H10 x10 => ?_
        · obtain ⟨v9, hv9, rfl⟩ := gd
          intro s0 H0 C cl fp
          have hv9 : kI ((F.C c).v : Int) H10 v9 := hv9
          have rv410 := Mn.mono (M := M0) x10 rv49
          exact j_or (j_cmp ok_eqI (j_var 11 rfl hv9) (j_var 4 rfl rv410)) fun _ => j_one (j_al hal (C_v ok (hops c hc)) hd (j_var 5 rfl (o9.up x10).k) (j_var 11 rfl hv9) (j_var 4 rfl rv410))
        · have o10 := o9.up x10
          obtain ⟨q1, xs, hq1, he1, hr1, hm1, hn1⟩ := o10.get (hal.dget hu)
          have ru10 := Mn.mono (M := M0) x10 ru9
          have rv410 := Mn.mono (M := M0) x10 rv49
          have hxl : xs.length = F.n := by rw [hr1.length, List.length_map]; exact (hal.get hu).2
          refine s_setL (M := M0) (j := d) (K := kB false) j_bl (j_ix (ix_own (p := pa) (xs := qs.map V.ref) (i := (u : Int)) (v := .ref q1) (atI_nat (by rw [List.getElem?_map, hq1]; rfl))) (j_var 5 rfl o10.own) (j_var 3 rfl ru10)) he1 (j_var 4 rfl rv410) (by omega) id fun v5 H11 x11 k5 e11 => s_nil (s_nil ⟨some v4, some (.ref pe), al.set u ((al.getD u []).set d false), rfl, ?_, hal.put hu, ((x8.trans x9).trans (x10.trans x11)).mut hn1, ?_, ?_, ?_⟩)
          · have hp2 := (o10.up x11).put (i := u) (ds := ((al.getD u []).map PyData.bool).set d (.bool false)) hq1 e11 (RpL.set k5 d (RpL.tm x11.tm _ hr1))
            have e : dAl (al.set u ((al.getD u []).set d false)) = (dAl al).set u (((al.getD u []).map PyData.bool).set d (.bool false)) := by
              unfold dAl
              rw [List.map_set, List.map_set]
            rw [e]
            exact hp2
          · exact (t8.trans (x9.trans (x10.trans x11)).tm).trans (Tm.lst e11)
          · exact (t8'.trans (x9.trans (x10.trans x11)).tm).trans (Tm.lst e11)
          · exact (t8''.trans (x9.trans (x10.trans x11)).tm).trans (Tm.lst e11)
        · exact s_nil ⟨some v4, some (.ref pe), al, rfl, o9.up x10, hal, (x8.trans x9).trans x10, t8.trans (x9.trans x10).tm, t8'.trans (x9.trans x10).tm, t8''.trans (x9.trans x10).tm⟩
      · rintro σ' H8 ⟨o4, o7, al, rfl, o, hal, x8, t8, t8', t8''⟩
        exact s_nil ⟨some v3, o4, o7, al, rfl, o, hal, x8, t8, t8'⟩
    · rintro σ' H6 ⟨o3, o4, o7, al, rfl, o, hal, x6, t6, t6'⟩
      exact s_nil ⟨o3, o4, some v6, o7, al, rfl, o, hal, x6, t6⟩
  · rintro σ' H4 ⟨o3, o4, o6, o7, al, rfl, o, hal, x4, t4⟩
    obtain ⟨g, hg⟩ : ∃ g : Nat → Nat → List Nat, g = fun u d => (F.op u d).filter (thF F al d) := ⟨_, rfl⟩
    have gl : ∀ u d, (g u d).length ≤ 6 := fun u d => by
      rw [hg]
      have h1 := List.length_filter_le (thF F al d) (F.op u d)
      have := nodup_le _ (List.range F.m) (ok.nd u d) fun c hc => List.mem_range.mpr (ok.op u d c hc).1
      rw [List.length_range] at this
      show ((F.op u d).filter (thF F al d)).length ≤ 6
      omega
    refine s_asgL (M := M0) 8 sc47.nd j_lst0 fun pr xr H5 n5 x5 e5 r5 => ?_
    have nr : H pr = none := x4.free _ n5
    have x45 := x4.trans x5
    refine s_for (M := M0) (pg_name (i := 3) sc47.nd rfl (Or.inl rfl)) (ji_rng (n := F.n) rfl B.range (j_var 2 rfl (kn _)) (by omega)) rfl fun H6 x6 => ?_
    refine ⟨fun j σ' H' => ∃ o3 o4 o9 xs, σ' = [some a, some b, some v2, o3, o4, some (.ref pa), o6, o7, some (.ref pr), o9, none, none] ∧ OL H' pr xs ((List.range j).map fun u => dRow ((List.range F.n).map (g u))) ∧ OLL M0 H H' pa qs (dAl al) ∧ Xt M0 H H' ∧ Tm H6 H', ⟨o3, o4, none, xr, rfl, OL.up ⟨e5, r5⟩ x6, (o.up x5).up x6, x45.trans x6, Tm.refl _⟩, fun j σ' H' ⟨_, _, _, _, _, _, _, _, t⟩ => t, ?_, ?_⟩
    · rintro u du v3 σ' H7 hu7 rv3 ⟨o3, o4, o9, xs, rfl, or7, oa7, x7, t7⟩
      have hu : u < F.n := by
        have := (List.getElem?_eq_some_iff.mp hu7).1
        rw [rangeD_len] at this; exact this
      rw [rangeD_at hu] at hu7
      cases hu7
      have rv3 : kI (u : Int) H7 v3 := rv3
      show WSs _ _ _ _ _
      refine s_asgL (M := M0) 9 sc47.nd j_lst0 fun pw xw H8 n8 x8 e8 r8 => ?_
      have nw : H pw = none := x7.free _ n8
      have hne : pr ≠ pw := fun z => by rw [← z, or7.1] at n8; cases n8
      have hnA : pa ≠ pw := fun z => by rw [← z, oa7.loc] at n8; cases n8
      have oa8 := oa7.up x8
      refine s_for (M := M0) (pg_name (i := 4) sc47.nd rfl (Or.inr rfl)) (ji_rng (n := F.n) rfl B.range (j_var 2 rfl (kn _)) (by omega)) rfl fun H9 x9 => ?_
      have k9 : kLL M0 (dAl al) H9 (.ref pa) := (oa8.up x9).k
      refine ⟨fun k σ' H' => ∃ o4 ws, σ' = [some a, some b, some v2, some v3, o4, some (.ref pa), o6, o7, some (.ref pr), some (.ref pw), none, none] ∧ OL H' pw ws ((List.range k).map fun d => dNs (g u d)) ∧ OL H' pr xs ((List.range u).map fun u => dRow ((List.range F.n).map (g u))) ∧ OLL M0 H H' pa qs (dAl al) ∧ pw ∉ qs ∧ Xt M0 H H' ∧ Tm H6 H' ∧ Tm H9 H', ⟨o4, xw, rfl, OL.up ⟨e8, r8⟩ x9, (or7.up x8).up x9, oa8.up x9, fun z => ?_, (x7.trans x8).trans x9, t7.trans (x8.trans x9).tm, Tm.refl _⟩, fun j σ' H' ⟨_, _, _, _, _, _, _, _, _, t⟩ => t, ?_, ?_⟩
      · obtain ⟨j, hj⟩ := List.mem_iff_getElem?.mp z
        have hj2 : j < (dAl al).length := by rw [← oa7.len]; exact (List.getElem?_eq_some_iff.mp hj).1
        obtain ⟨zs, e, _⟩ := oa7.inn j pw _ hj (List.getElem?_eq_getElem hj2)
        rw [n8] at e
        cases e
      · rintro d dd4 v4 σ' H10 hd10 rv4 ⟨o4, ws, rfl, ow, orr, oa, hpq, x10, t10, t10'⟩
        have hd : d < F.n := by
          have := (List.getElem?_eq_some_iff.mp hd10).1
          rw [rangeD_len] at this; exact this
        rw [rangeD_at hd] at hd10
        cases hd10
        have rv4 : kI (d : Int) H10 v4 := rv4
        have ru : kI (u : Int) H10 v3 := Rp.tm ((x8.trans x9).tm.trans t10') _ rv3
        show WSs _ _ _ _ _
        refine s_append (M := M0) 9 (K := kD (dNs (g u d))) rfl ow.1 (j_tupL B (JL.k (JL.is (j_lc (bs := F.op u d) (enc := dI) (gg := dI) (f := thF F al d) rfl sc47.nd bk47_4 (fun s H C cl fp => pg_name (i := 10) sc47.nd rfl (Or.inl rfl)) (JI.x (ji_tup (j_op2 ok hu hd (j_var 1 rfl (Mn.mono x10 hb)) (j_var 3 rfl ru) (j_var 4 rfl rv4)))) ?_ (tg_name fun v => rfl) trivial (fun H11 c σ2 x11 hc gd => jbts_one ?_) (fun H11 c σ2 x11 hc gd _ => ?_)) (by rw [hg])))) ?_ id fun v12 H12 x12 k12 e12 => s_nil ⟨some v4, ws ++ [v12], rfl, ?_, (orr.up x12).other e12 hne, ?_, hpq, (x10.trans x12).mut nw, (t10.trans x12.tm).trans (Tm.lst e12), (t10'.trans x12.tm).trans (Tm.lst e12)⟩
        · have := nodup_le _ (List.range F.m) (ok.nd u d) fun c hc => List.mem_range.mpr (ok.op u d c hc).1
          rw [List.length_range] at this
          omega
        · obtain ⟨v9, hv9, rfl⟩ := gd
          intro s0 H0 C cl fp
          have hcm := (ok.op u d c hc).1
          have hv9 : kI (c : Int) H11 v9 := hv9
          have x111 := x10.trans x11
          have rv411 := Mn.mono (M := M0) x11 rv4
          exact jt_or (jt_cmp ok_eqI (j_c1 (j_ch hcm (j_n1 (j_var 0 rfl (Mn.mono x111 ha))) (j_var 10 rfl hv9))) (j_var 4 rfl rv411)) fun _ => jt_val (j_al hal (C_v ok hcm) hd (j_var 5 rfl (oa.up x11).k) (j_c1 (j_ch hcm (j_n1 (j_var 0 rfl (Mn.mono x111 ha))) (j_var 10 rfl hv9))) (j_var 4 rfl rv411))
        · obtain ⟨v9, hv9, rfl⟩ := gd
          intro s0 H0 C cl fp
          exact j_var 10 rfl (K := kI (c : Int)) hv9
        · rw [ow.len, List.length_map, List.length_range]
          omega
        · have := (ow.up x12).app k12
          rw [List.range_succ, List.map_append]
          exact this
        · have oa12 := oa.up x12
          have hwa : pa ≠ pw := hnA
          refine ⟨oa12.np, oa12.nq, oa12.mp, oa12.mq, (upd_ne hwa).trans oa12.loc, oa12.nd, oa12.len, fun i q ds h1 h2 => ?_⟩
          obtain ⟨zs, e, r⟩ := oa12.inn i q ds h1 h2
          exact ⟨zs, (upd_ne (show q ≠ pw from fun z => hpq (z ▸ List.mem_of_getElem? h1))).trans e, RpL.tm (Tm.lst e12) _ r⟩
      · rintro σ' H10 ⟨o4, ws, rfl, ow, orr, oa, hpq, x10, t10, t10'⟩
        rw [rangeD_len] at ow
        have eds : ((List.range F.n).map fun d => dNs (g u d)) = ((List.range F.n).map (g u)).map dNs := by rw [List.map_map]; rfl
        rw [eds] at ow
        refine s_append (M := M0) 8 (K := kD (dRow ((List.range F.n).map (g u)))) rfl orr.1 (j_tupL B (j_var 9 rfl ow.kl)) ?_ id fun v12 H12 x12 k12 e12 => s_nil ⟨some v3, o4, some (.ref pw), xs ++ [v12], rfl, ?_, ?_, (x10.trans x12).mut nr, (t10.trans x12.tm).trans (Tm.lst e12)⟩
        · rw [orr.len, List.length_map, List.length_range]
          omega
        · have := (orr.up x12).app k12
          rw [List.range_succ, List.map_append]
          exact this
        · have oa12 := oa.up x12
          have hra : pa ≠ pr := fun z => by
            rw [← z] at n5
            rw [o.loc] at n5
            cases n5
          have hrq : pr ∉ qs := fun z => by
            obtain ⟨j, hj⟩ := List.mem_iff_getElem?.mp z
            have hj2 : j < (dAl al).length := by rw [← o.len]; exact (List.getElem?_eq_some_iff.mp hj).1
            obtain ⟨zs, e, _⟩ := o.inn j pr _ hj (List.getElem?_eq_getElem hj2)
            rw [n5] at e
            cases e
          refine ⟨oa12.np, oa12.nq, oa12.mp, oa12.mq, (upd_ne hra).trans oa12.loc, oa12.nd, oa12.len, fun i q ds h1 h2 => ?_⟩
          obtain ⟨zs, e, r⟩ := oa12.inn i q ds h1 h2
          exact ⟨zs, (upd_ne (show q ≠ pr from fun z => hrq (z ▸ List.mem_of_getElem? h1))).trans e, RpL.tm (Tm.lst e12) _ r⟩
    · rintro σ' H7 ⟨o3, o4, o9, xs, rfl, or7, oa7, x7, t7⟩
      rw [rangeD_len] at or7
      refine s_ret (M := M0) (j_tupL B (j_var 8 rfl or7.kl)) fun v H8 x8 k => hq v H8 (x7.trans x8) ⟨tabOf F.n g, tab_ok (ok.net h2) (fun u d hu hd => ?_), ?_⟩
      · rw [hg]
        exact ⟨(ok.nd u d).sublist List.filter_sublist, fun c hc => ok.op u d c (memf hc)⟩
      · have e : dTbl (tabOf F.n g) = .tuple ((List.range F.n).map fun u => dRow ((List.range F.n).map (g u))) := by
          unfold dTbl tabOf
          rw [List.map_map]
          rfl
        rw [e]
        exact k
end
end K68

set_option Elab.async false
set_option linter.all false
set_option maxRecDepth 100000
set_option maxHeartbeats 1000000
/-! K68, text C7: rules for _law_drawn_table: a comprehension over a list of lists, tuples of known relation. -/
namespace K68
open PySem PySem.Spec L2
open PyProof.Rows hiding St
/-- a list of which R holds -/
def kLR {γ : Type} (M : Md) (gg : γ → PyData) (R : List γ → Prop) : Kn := fun H v => ∃ l, R l ∧ kL M (l.map gg) H v
instance {γ : Type} (M : Md) (gg : γ → PyData) (R : List γ → Prop) : Mn M (kLR M gg R) := ⟨fun e ⟨l, h1, h2⟩ => ⟨l, h1, Mn.mono e h2⟩⟩
section
variable {M : Md} {X : Cx} {a b e : Expr} {σ : L2.St} {H : Hp} {pos p : Pos} {γ : Type} {gg : γ → PyData} {R : List γ → Prop}
theorem ck_tupR : CallK M X (.type "tuple") [kLR M gg R] (kX R fun l => .tuple (l.map gg)) := ⟨_, call_tuple_of, fun H vs Q k q => by
  obtain ⟨v, rfl, kv⟩ := k1 k
  obtain ⟨l, hl, p, xs, rfl, e, r, _⟩ := kv
  exact ⟨p, xs, rfl, .inl ⟨SqL.of e, fun p' hl' => q _ _ (Xt.new hl') ⟨l, hl, Rp.tup upd_same (RpL.tm (Xt.new (M := M) hl').tm _ r)⟩⟩⟩⟩
theorem JLR.k (h : JLR M X e σ H gg R) (hi : M.i H := by first | exact trivial | assumption) : JK M X e σ H (kLR M gg R) := fun H1 x Q q => h H1 x Q fun p xs H2 l n y e r hR => q _ H2 y ⟨l, hR, p, xs, rfl, e, r, M.new (x.inv hi) n⟩
theorem j_tupR (B : Blt X.mg) (h : JK M X a σ H (kLR M gg R)) (hg : Gl X "tuple" := by rfl) (hs : starEach [a] X.env = (false, eval a X.env) :: starEach [] X.env := by rfl) : JK M X (.Call (.Name "tuple" p) [a] [] pos) σ H (kX R fun l => .tuple (l.map gg)) :=
  j_callTy ck_tupR hg B.tuple bt_tuple (ja_cons h ja_nil hs) (by decide) (by decide) hs rfl
theorem ix_lN {l : List Nat} : IxK M X (kL M (l.map dI)) (kN fun i => i < l.length) (kN fun c => c ∈ l) := ⟨_, ix_list, fun H x y Q a ⟨i, hi, b⟩ q => by
  obtain ⟨p, xs, rfl, e, r, _⟩ := a
  obtain ⟨v, h1, h2⟩ := rpl_atI (i := (i : Int)) r (at_Ns hi)
  exact ⟨p, xs, i, v, rfl, kI_eq b, SqL.of e, h1, q v H (Xt.refl H) ⟨_, List.mem_of_getElem? (getD_get hi 0), h2⟩⟩⟩
theorem j_tup1N {E : Nat → Prop} {R : List Nat → Prop} {k : Nat} (h : JK M X a σ H (kN E)) (hR : ∀ c, E c → R [c]) (hs : starEach [a] X.env = (false, eval a X.env) :: starEach [] X.env := by rfl) : JK M X (.Tuple [a] k pos) σ H (kX R dNs) := fun H1 x Q q =>
  we_of (pe_tup pa_wa) (ja_cons h ja_nil hs H1 x _ fun vs H2 y k => by
    obtain ⟨v1, rfl, c, hc, r1⟩ := k1 k
    refine ⟨show 1 ≤ sizeLine by decide, fun p hp => q _ _ (y.trans (Xt.new hp)) ⟨[c], hR c hc, ?_⟩⟩
    exact Rp.tup upd_same (.cons (Rp.tm (Xt.new (M := M) hp).tm _ r1) .nil))
end
section
variable {M : Md} {X : Cx} {σ : L2.St} {H : Hp} {scope : Scope} {tg it elt : Expr} {vs : List Nat} {i : Nat}
theorem lcLL_read {dss : List (List PyData)} (h : JK M X it σ H (kLL M dss)) (hl : dss.length ≤ 1000000) (hw : ∀ v, wipe ((wipe σ vs).set i (some v)) vs = wipe σ vs) (hi : M.i H)
    (he : ∀ H1 ds u, Xt M H H1 → kL M ds H1 u → JBK M X scope elt ((wipe σ vs).set i (some u)) H1 (kD (.tuple ds))) :
    ∀ H0, Xt M H H0 → ∀ Q : VK, (∀ p xs H2, H0 p = none → Xt M H0 H2 → H2 p = some (.lst xs) → RpL H2 xs (dss.map .tuple) → Q (.ref p) H2) → tLc (WI X tg it) (gName i) (BTs X scope []) (BE X scope elt) vs σ H0 Q := by
  intro H0 x Q q
  refine wi_of (pi_list pe_we) (h H0 x _ fun v H1 y kv => ?_)
  obtain ⟨pl, ls, rfl, el, hm, hll, hin⟩ := kv
  refine ⟨pl, rfl, ⟨ls, SqL.of el⟩, ?_⟩
  intro Dl hD
  have hm0 : ¬ M.m Dl := M.new ((x.trans y).inv hi) hD
  have kll : kLL M dss H1 (.ref pl) := ⟨pl, ls, rfl, el, hm, hll, hin⟩
  refine ⟨fun j m H' => m = dss.length - j ∧ j ≤ dss.length ∧ Xt M H1 H' ∧ ∃ xs, H' Dl = some (.lst xs) ∧ RpL H' xs ((dss.take j).map .tuple), ⟨dss.length, by simp, Nat.zero_le _, Xt.new hD, [], upd_same, .nil⟩, ?_⟩
  rintro j m H' ⟨rfl, hj, z, xs, ed, rl⟩
  have el' := z.keep _ _ el (nt_lst ls) hm
  by_cases hlt : j < dss.length
  · have hlt' : j < ls.length := by omega
    refine .inr ⟨⟨ls, ls[j], SqL.of el', by simp [hlt']⟩, fun H2 => Xt M H1 H2 ∧ ∃ xs, H2 Dl = some (.lst xs) ∧ RpL H2 xs ((dss.take (j + 1)).map .tuple), fun H2 p' => ⟨dss.length - (j + 1), by omega, rfl, hlt, p'⟩, fun v H2 yy => ?_⟩
    obtain ⟨rfl, y2⟩ := yy
    have hv := y2 ls (SqL.of el')
    have hb : dss[j]? = some dss[j] := by simp [hlt]
    obtain ⟨pl', ls', e1, e2, _, _, hin'⟩ := Mn.mono (M := M) z kll
    cases e1
    rw [el'] at e2
    cases e2
    obtain ⟨u, hu1, hu2⟩ := hin' j _ hb
    have huv : u = v := by rw [hv] at hu1; exact (Option.some.inj hu1).symm
    subst huv
    refine ⟨hw u, ?_⟩
    intro s0 H0' C cl fp
    refine jts_nil (M := M) H2 (Xt.refl H2) _ fun H3 t3 => ?_
    rw [if_pos rfl]
    intro s0 H0' C cl fp
    refine he H3 dss[j] u (((x.trans y).trans z).trans t3) (Mn.mono t3 hu2) s0 H0' C cl fp H3 (Xt.refl H3) _ fun w H4 t4 kw => ?_
    have ed4 := t4.keep _ _ (t3.keep _ _ ed (nt_lst xs) hm0) (nt_lst xs) hm0
    refine ⟨xs, ed4, ?_, ((z.trans t3).trans t4).mut hD, xs ++ [w], upd_same, ?_⟩
    · rw [rl.length, List.length_map, List.length_take]
      exact Nat.lt_of_lt_of_le (show _ < 1000001 by omega) (by decide)
    · rw [take_snoc hb, List.map_append]
      have tm : Tm H4 (upd H4 Dl (.lst (xs ++ [w]))) := Tm.lst ed4
      exact RpL.tm tm _ ((RpL.tm (t3.trans t4).tm _ rl).app (.cons kw .nil))
  · have ei : j = dss.length := by omega
    subst ei
    refine .inl ⟨⟨ls, SqL.of el', by rw [hll]; exact Nat.le_refl _⟩, ?_⟩
    rw [List.take_length] at rl
    exact q Dl xs H' (y.free _ hD) (y.trans z) ed rl
theorem j_lcLL {dss : List (List PyData)} {own : List (Str × Nat)} {pos : Pos} (hc : X.calm = true) (nd : X.N.Nodup) (ok : BlkOk X.N X.env.scope scope own)
    (hg : ∀ (s : Shared) (H : Hp) (C : Addr) (cl : List (Str × Addr)) (fp : List Addr), PG (X.blk s H scope (compEnvC scope cl C X.env) fp) tg (gName i))
    (h : JK M X it σ H (kLL M dss)) (hl : dss.length ≤ 1000000) (hw : ∀ v, wipe ((wipe σ (own.map (·.2))).set i (some v)) (own.map (·.2)) = wipe σ (own.map (·.2)))
    (he : ∀ H1 ds u, Xt M H H1 → kL M ds H1 u → JBK M X scope elt ((wipe σ (own.map (·.2))).set i (some u)) H1 (kD (.tuple ds))) (hi : M.i H := by first | exact trivial | assumption)
    (hs : ∀ x, foldedSetIterable it X.env x = pure x := by intro _; rfl) : JL M X (.ListComp elt [⟨tg, it, [], 0⟩] scope pos) σ H (dss.map .tuple) := fun H0 x Q q =>
  we_of (pe_lc hc nd pi_wi ok hg (fun s H C cl fp => ⟨fun pins s' σ H' Q I h => h s H C cl fp pins s' I⟩) (fun s H C cl fp => ⟨fun pins s' σ H' Q I h => h s H C cl fp pins s' I⟩) hs) (lcLL_read h hl hw hi he H0 x Q q)
end
end K68

set_option Elab.async false
set_option linter.all false
set_option maxRecDepth 100000
set_option maxHeartbeats 1000000
/-! K68, text C8: _law_drawn_table. -/
namespace K68
open PySem PySem.Spec L2
open PyProof.Rows hiding St
def CellOk (F : Fab) (u : Nat) (l : List Nat) : Prop := l.Nodup ∧ ∀ c ∈ l, c < F.m ∧ (F.C c).u = u
def rowsD (n : Nat) (g : Nat → Nat → List Nat) : List (List PyData) := (List.range n).map fun u => (List.range n).map fun d => dNs (g u d)
def updG (g : Nat → Nat → List Nat) (u d : Nat) (l : List Nat) : Nat → Nat → List Nat := fun u' d' => if u' = u ∧ d' = d then l else g u' d'
def GOk' (F : Fab) (g : Nat → Nat → List Nat) : Prop := ∀ u d, u < F.n → d < F.n → CellOk F u (g u d)
theorem rowsD_get {n : Nat} {g : Nat → Nat → List Nat} {u : Nat} (hu : u < n) : (rowsD n g)[u]? = some ((List.range n).map fun d => dNs (g u d)) := by
  unfold rowsD
  rw [List.getElem?_map, List.getElem?_range hu]
  rfl
theorem rowsD_upd {n : Nat} {g : Nat → Nat → List Nat} {u d : Nat} {l : List Nat} : rowsD n (updG g u d l) = (rowsD n g).set u (((List.range n).map fun d => dNs (g u d)).set d (dNs l)) := by
  unfold rowsD
  refine List.ext_getElem (by rw [List.length_set, List.length_map, List.length_map]) fun i h1 h2 => ?_
  rw [List.getElem_set, List.getElem_map, List.getElem_map, List.getElem_range]
  by_cases hi : u = i
  · rw [if_pos hi]
    subst hi
    refine List.ext_getElem (by rw [List.length_set, List.length_map, List.length_map]) fun j h3 h4 => ?_
    rw [List.getElem_set, List.getElem_map, List.getElem_map, List.getElem_range]
    unfold updG
    by_cases hj : d = j
    · rw [if_pos hj, if_pos ⟨rfl, hj.symm⟩]
    · rw [if_neg hj, if_neg (fun z => hj z.2.symm)]
  · rw [if_neg hi]
    refine List.map_congr_left fun j _ => ?_
    unfold updG
    rw [if_neg (fun z => hi z.1.symm)]
theorem updG_ok {F : Fab} {g : Nat → Nat → List Nat} {u d : Nat} {l : List Nat} (h : GOk' F g) (hl : CellOk F u l) : GOk' F (updG g u d l) := by
  intro u' d' hu hd
  unfold updG
  by_cases z : u' = u ∧ d' = d
  · rw [if_pos z, z.1]; exact hl
  · rw [if_neg z]; exact h u' d' hu hd
section
variable {M : Md} {X : Cx} {rE uE dE e : Expr} {σ : L2.St} {H H0 : Hp} {p3 p5 pos : Pos} {D : Ends} {rest : List Stmt}
/-- rows[u][d] = e -/
theorem s_store {F : Fab} {n u d : Nat} {g : Nat → Nat → List Nat} {pr : Addr} {qs : List Addr} (x0 : Xt M H0 H) (ol : OLL M H0 H pr qs (rowsD n g)) (hu : u < n) (hd : d < n) (hv : JK M X e σ H (kX (CellOk F u) dNs)) (jr : JK M X rE σ H (kOwn M pr (qs.map V.ref))) (ju : JK M X uE σ H (kI (u : Int))) (jd : JK M X dE σ H (kI (d : Int)))
    (k : ∀ l H', CellOk F u l → Xt M H0 H' → Tm H H' → OLL M H0 H' pr qs (rowsD n (updG g u d l)) → (∀ p ls, H p = some (.lst ls) → ¬ M.m p → p ∉ qs → H' p = some (.lst ls)) → WSs X rest D σ H')
    (hp : PlainIx uE := by intro _ _; rfl) (ha : ∀ v, assign (.Subscript (.Subscript rE uE p3) dE p5) X.env v = (do
      let ov ← holding [v] (eval (.Subscript rE uE p3) X.env)
      let iv ← holding [v, ov] (eval dE X.env)
      standAt p5
      holding [v, ov, iv] (setItem ov iv v)
      release [v, ov, iv] []) := by intro _; rfl)
    (hs : swapsWithSole [.Subscript (.Subscript rE uE p3) dE p5] e pos.line X.env = pure false := by rfl) (hw : swappedStores [.Subscript (.Subscript rE uE p3) dE p5] e X.env = pure none := by rfl)
    (h1 : (assignEach [.Subscript (.Subscript rE uE p3) dE p5] X.env).map (·.2) = [assign (.Subscript (.Subscript rE uE p3) dE p5) X.env] := by rfl) : WSs X (.Assign [.Subscript (.Subscript rE uE p3) dE p5] e pos :: rest) D σ H := by
  obtain ⟨q, xs, hq, he, hr, hm, hn⟩ := ol.get (rowsD_get hu)
  refine s_setL (M := M) (j := d) hv (j_ix (ix_own (p := pr) (xs := qs.map V.ref) (i := (u : Int)) (v := .ref q) (atI_nat (by rw [List.getElem?_map, hq]; rfl))) jr ju hp) he jd (by rw [hr.length, List.length_map, List.length_range]; exact hd) hm (fun v H1 x1 k1 e1 => ?_) ha hs hw h1
  obtain ⟨l, hl, rl⟩ := k1
  refine k l _ hl ((x0.trans x1).mut hn) (x1.tm.trans (Tm.lst e1)) ?_ fun p ls hp hmp hpq => ?_
  · rw [rowsD_upd]
    exact (ol.up x1).put hq e1 (RpL.set rl d (RpL.tm x1.tm _ hr))
  · rw [upd_ne (show p ≠ q from fun z => hpq (z ▸ List.mem_of_getElem? hq))]
    exact x1.keep _ _ hp (nt_lst _) hmp
end
/-- a list of which R holds, none of these -/
def kLQ {γ : Type} (M : Md) (qs : List Addr) (gg : γ → PyData) (R : List γ → Prop) : Kn := fun H v => ∃ l, R l ∧ kL M (l.map gg) H v ∧ ∀ q ∈ qs, v ≠ .ref q
instance {γ : Type} (M : Md) (qs : List Addr) (gg : γ → PyData) (R : List γ → Prop) : Mn M (kLQ M qs gg R) := ⟨fun e ⟨l, h1, h2, h3⟩ => ⟨l, h1, Mn.mono e h2, h3⟩⟩
theorem OLL.some {M : Md} {H0 H : Hp} {p q : Addr} {qs : List Addr} {dss : List (List PyData)} (h : OLL M H0 H p qs dss) (hq : q ∈ qs) : H q ≠ none := by
  obtain ⟨j, hj⟩ := List.mem_iff_getElem?.mp hq
  have hj2 : j < dss.length := by rw [← h.len]; exact (List.getElem?_eq_some_iff.mp hj).1
  obtain ⟨zs, e, _⟩ := h.inn j q _ hj (List.getElem?_eq_getElem hj2)
  rw [e]
  exact fun z => by cases z
theorem subl_len {l nl : List Nat} {i : Nat} (h : l.Sublist (nl.take i)) : l.length ≤ i := by
  have h1 := h.length_le
  rw [List.length_take] at h1
  omega
theorem subl_up {l nl : List Nat} {i c : Nat} (hb : nl[i]? = some c) (h : l.Sublist (nl.take i)) : l.Sublist (nl.take (i + 1)) := by
  rw [take_snoc hb]
  exact h.trans (List.sublist_append_left _ _)
theorem subl_add {l nl : List Nat} {i c : Nat} (hb : nl[i]? = some c) (h : l.Sublist (nl.take i)) : (l ++ [c]).Sublist (nl.take (i + 1)) := by
  rw [take_snoc hb]
  exact h.append (List.Sublist.refl _)
theorem free48 : ∀ y ∈ S48_0.names, y.2 ≠ .free := by
  intro y hy
  simp only [List.mem_cons, List.mem_nil_iff, or_false] at hy
  rcases hy with rfl | rfl
  · exact fun z => by cases z
  · exact fun z => by cases z
theorem bk48_0' {sc : Scope} : BlkOk N48 sc S48_0 O48_0 := ⟨bk48_0.kind, bk48_0.uniq, bk48_0.ix, fun y hy hf => absurd hf (free48 y hy), bk48_0.own⟩
section
variable {P : Program} {w : World} {K : PySem.W.Frag} {mg : Str → Option Value} {base : Heap} {f : Addr} {fd : FuncData}
def spDt : Sp := fun vs H Q _ => ∃ (b c : Addr) (F : Fab) (kd : Nat), boxI b c H ∧ NetOk F ∧ KAll [kE (.ref b), kD F.dNet, kI (kd : Int)] H vs ∧ RetK (MB b c) (kX (fun tb => (⟨F.n, F.ch, tb⟩ : Fab).Ok) dTbl) H Q
theorem fnDt (B : Blt mg) (F : Fun K "_law_drawn_table" "_law_drawn_table" (topS 48) f fd) (hm : mg "_law_drawn_table" = some (.ref f)) (fD : FnK P w K mg base "_law_draw" A43 2 spDr) (fA : FnK P w K mg base "_law_away" A46 1 spAy) : FnK P w K mg base "_law_drawn_table" A48 3 spDt := by
  refine fn_sp F hm sc48 (fun vs H Q E ⟨_, _, _, _, _, _, h, _⟩ => kall_len h) (fun _ _ _ _ _ _ us hl => match us, hl with | [_, _, _], _ => rfl) fun cdv A outer s H vs Q E hr ⟨b, c, F, kd, hi, ok, hk, hq⟩ => ?_
  obtain ⟨v0, a, v2, rfl, e0, ha, kk⟩ := k3 hk
  have e0 : v0 = .ref b := e0
  subst e0
  have ha : kD F.dNet H a := ha
  have kk : kI (kd : Int) H v2 := kk
  have h4 := ok.n4
  have h2 := ok.n1
  have h6 := ok.m6
  obtain ⟨M, hM⟩ : ∃ M, M = MB b c := ⟨_, rfl⟩
  have kkd : ∀ H', kI (kd : Int) H' v2 := fun H' => by rw [kI_eq kk]; exact kI_of
  refine s_asg (M := MB b c) 3 sc48.nd (j_n0 (j_var 1 rfl ha)) fun v3 H1 x1 k3 => ?_
  have k3 : kI (F.n : Int) H1 v3 := k3
  have kn : ∀ H', kI (F.n : Int) H' v3 := fun H' => by rw [kI_eq k3]; exact kI_of
  refine s_asg (M := MB b c) 4 sc48.nd (K := kN fun x => x < 4) (j_if (t := decide ((kd : Int) = 4)) (jt_cmp ok_eqI (j_var 2 rfl (kkd _)) j_int) (fun q => j_draw fD hr (x1.inv hi) (j_var 0 rfl rfl) (j_N (n := 4) j_int) (fun m hm => by subst hm; exact ⟨by omega, by omega, fun d hd => hd⟩)) fun q => JK.imp (K := kI ((0 : Nat) : Int)) j_int fun H v k => ⟨0, by decide, k⟩) fun v4 H2 x2 k4 => ?_
  obtain ⟨sm, hsm, k4⟩ := k4
  have ks : ∀ H', kI (sm : Int) H' v4 := fun H' => by rw [kI_eq (i := (sm : Int)) k4]; exact kI_of
  have x02 := x1.trans x2
  refine s_asgLcF (M := MB b c) 7 (bs := List.range F.n) (enc := dI) (dss := fun _ => (List.range F.n).map fun _ => dNs []) rfl sc48.nd bk48_1 (fun s H C cl fp => pg_name (i := 5) sc48.nd rfl (Or.inl rfl)) (JI.x (ji_rng rfl B.range (j_var 3 rfl (kn _)) (by omega))) (by rw [List.length_range]; omega) (tg_name fun v => rfl) (fun H1 u σ2 x hu gd s0 H0 C cl fp => ?_) (x02.inv hi) fun pr qs H3 x3 o3 => ?_
  · obtain ⟨v9, hv9, rfl⟩ := gd
    exact j_lcT (bs := List.range F.n) (enc := dI) (own := O48_0) rfl sc48.nd bk48_0' (fun s H C cl fp => pg_name (i := 6) sc48.nd rfl (Or.inl rfl)) (JI.x (ji_rng rfl B.range (j_var 3 rfl (kn _)) (by omega))) (by rw [List.length_range]; omega) (tg_name fun v => rfl) (fun H3 d σ3 x3 hd gd s0 H0 C cl fp => j_tup0) ((x02.trans x).inv hi)
  have x03 := x02.trans x3
  have o3 : OLL (MB b c) H H3 pr qs (rowsD F.n fun _ _ => []) := ⟨x02.free _ o3.np, fun q hq => x02.free _ (o3.nq q hq), o3.mp, o3.mq, o3.loc, o3.nd, o3.len, o3.inn⟩
  refine s_for (M := MB b c) (pg_name (i := 6) sc48.nd rfl (Or.inr rfl)) (ji_rng (n := F.n) rfl B.range (j_var 3 rfl (kn _)) (by omega)) rfl fun H4 x4 => ?_
  refine ⟨fun j σ' H' => ∃ o5 o6 o8 o9 o10 g, σ' = [some (.ref b), some a, some v2, some v3, some v4, o5, o6, some (.ref pr), o8, o9, o10, none, none] ∧ OLL (MB b c) H H' pr qs (rowsD F.n g) ∧ GOk' F g ∧ Xt (MB b c) H H' ∧ Tm H4 H', ⟨none, none, none, none, none, _, rfl, o3.up x4, fun u d _ _ => ⟨List.nodup_nil, fun c h => by cases h⟩, x03.trans x4, Tm.refl _⟩, fun j σ' H' ⟨_, _, _, _, _, _, _, _, _, _, t⟩ => t, ?_, ?_⟩
  · rintro d dd v6 σ' H5 hj rv ⟨o5, o6, o8, o9, o10, g, rfl, o, hg, x5, t5⟩
    have hd : d < F.n := by
      have := (List.getElem?_eq_some_iff.mp hj).1
      rw [rangeD_len] at this; exact this
    rw [rangeD_at hd] at hj
    cases hj
    have rv : kI (d : Int) H5 v6 := rv
    have kd6 : ∀ H', kI (d : Int) H' v6 := fun H' => by rw [kI_eq rv]; exact kI_of
    show WSs _ _ _ _ _
    have i5 := x5.inv hi
    refine s_asg (M := MB b c) 8 sc48.nd (K := kLQ (MB b c) qs PyData.int fun ns => ns.length = F.n) (j_call fA (hr.mono (by decide : 1 ≤ 2)) (by rfl) (ja_cons (j_var 1 rfl (Mn.mono x5 ha)) (ja_cons (j_var 6 rfl (kd6 _)) ja_nil)) fun vs H2 Q y k q => ⟨F, d, ok, k, fun p ns H' hn x hl he => q _ H' x.lift ⟨ns, hl, ⟨p, _, rfl, he, RpL.of_ints ns, Md.new (M := MB b c) (y.inv i5) hn⟩, fun q' hq' z => (o.up y).some hq' (by cases z; exact hn)⟩⟩) fun v8 H6 x6 k8 => ?_
    obtain ⟨ns, hns, k8, kq8⟩ := k8
    have x56 := x5.trans x6
    refine s_for (M := MB b c) (pg_name (i := 5) sc48.nd rfl (Or.inr rfl)) (ji_rng (n := F.n) rfl B.range (j_var 3 rfl (kn _)) (by omega)) rfl fun H7 x7 => ?_
    refine ⟨fun j σ' H' => ∃ o5 o9 o10 g, σ' = [some (.ref b), some a, some v2, some v3, some v4, o5, some v6, some (.ref pr), some v8, o9, o10, none, none] ∧ OLL (MB b c) H H' pr qs (rowsD F.n g) ∧ GOk' F g ∧ Xt (MB b c) H H' ∧ kL (MB b c) (ns.map PyData.int) H' v8 ∧ Tm H4 H' ∧ Tm H7 H', ⟨o5, o9, o10, g, rfl, (o.up x6).up x7, hg, x56.trans x7, Mn.mono x7 k8, t5.trans (x6.trans x7).tm, Tm.refl _⟩, fun j σ' H' ⟨_, _, _, _, _, _, _, _, _, _, t⟩ => t, ?_, ?_⟩
    · rintro u du v5 σ' H8 hu8 rv5 ⟨o5, o9, o10, g, rfl, o, hg, x8, k88, t8, t8'⟩
      have hu : u < F.n := by
        have := (List.getElem?_eq_some_iff.mp hu8).1
        rw [rangeD_len] at this; exact this
      rw [rangeD_at hu] at hu8
      cases hu8
      have rv5 : kI (u : Int) H8 v5 := rv5
      have ku : ∀ H', kI (u : Int) H' v5 := fun H' => by rw [kI_eq rv5]; exact kI_of
      have i8 := x8.inv hi
      have hnet : ∀ x ∈ F.ch, x.v < F.n := fun x hx => (ok.ch x hx).2.1
      show WSs _ _ _ _ _
      refine s_asgLc (M := MB b c) 9 (bs := List.range F.m) (enc := dI) (gg := dI) (f := fun c => decide (((F.C c).u : Int) = (u : Int)) && !decide ((u : Int) = (d : Int))) rfl sc48.nd bk48_2 (fun s H C cl fp => pg_name (i := 11) sc48.nd rfl (Or.inl rfl)) (JI.x (ji_rng rfl B.range (j_lenCh B (j_n1 (j_var 1 rfl (Mn.mono x8 ha)))) (by omega))) (by rw [List.length_range]; omega) (tg_name fun v => rfl) i8 (fun H9 c' σ2 x9 hm gd => jbts_one ?_) (fun H9 c' σ2 x9 hm gd _ => ?_) fun pn xn H9 n9 x9 e9 r9 => ?_
      · obtain ⟨v9, hv9, rfl⟩ := gd
        intro s0 H0 C cl fp
        exact jt_and (jt_cmp ok_eqI (j_c0 (j_ch (List.mem_range.mp hm) (j_n1 (j_var 1 rfl (Mn.mono (x8.trans x9) ha))) (j_var 11 rfl (K := kI (c' : Int)) hv9))) (j_var 5 rfl (ku _))) fun _ => jt_cmp ok_neI (j_var 5 rfl (ku _)) (j_var 6 rfl (kd6 _))
      · obtain ⟨v9, hv9, rfl⟩ := gd
        intro s0 H0 C cl fp
        exact j_var 11 rfl (K := kI (c' : Int)) hv9
      obtain ⟨nl, hnl⟩ : ∃ nl, nl = (List.range F.m).filter fun c => decide (((F.C c).u : Int) = (u : Int)) && !decide ((u : Int) = (d : Int)) := ⟨_, rfl⟩
      rw [← hnl] at r9
      have cnl : CellOk F u nl := by
        rw [hnl]
        refine ⟨List.nodup_range.sublist List.filter_sublist, fun c hc => ?_⟩
        obtain ⟨h1, h2⟩ := List.mem_filter.mp hc
        rw [Bool.and_eq_true, decide_eq_true_eq] at h2
        exact ⟨List.mem_range.mp h1, by have := h2.1; omega⟩
      have csub : ∀ l : List Nat, l.Sublist nl → CellOk F u l := fun l h => ⟨cnl.1.sublist h, fun c hc => cnl.2 c (h.mem hc)⟩
      have lnl : nl.length ≤ 6 := by
        have := nodup_le _ (List.range F.m) cnl.1 fun c hc => List.mem_range.mpr (cnl.2 c hc).1
        rw [List.length_range] at this
        omega
      have mn9 : ¬ (MB b c).m pn := Md.new (M := MB b c) i8 n9
      have kn9 : kL (MB b c) (nl.map dI) H9 (.ref pn) := ⟨pn, xn, rfl, e9, r9, mn9⟩
      have x89 := x8.trans x9
      have i9 := x89.inv hi
      have k89 := Mn.mono (M := MB b c) x9 k88
      have jaw : ∀ {X : Cx} {a1 a2 : Expr} {σ : L2.St} {H : Hp} {pos : Pos} {v : Nat}, v < F.n → JK (MB b c) X a1 σ H (kL (MB b c) (ns.map PyData.int)) → JK (MB b c) X a2 σ H (kI (v : Int)) → PlainIx a2 → JK (MB b c) X (.Subscript a1 a2 pos) σ H (kI (ns.getD v 0)) := fun hv h1 h2 hp => j_litem (atI_map (f := PyData.int) (getD_get (by omega) 0)) h1 h2 hp
      refine s_asgL (M := MB b c) 10 (ds := (nl.filter fun c => decide (ns.getD (F.C c).v 0 + 1 = ns.getD u 0) && decide (ns.getD u 0 < 99)).map dI) sc48.nd (j_lc (bs := nl) (enc := dI) (gg := dI) (f := fun c => decide (ns.getD (F.C c).v 0 + 1 = ns.getD u 0) && decide (ns.getD u 0 < 99)) rfl sc48.nd bk48_3 (fun s H C cl fp => pg_name (i := 11) sc48.nd rfl (Or.inl rfl)) (JIL.x (jil_of (j_var 9 rfl kn9))) (by omega) (tg_name fun v => rfl) i9 (fun H10 c' σ2 x10 hm gd => jbts_one ?_) (fun H10 c' σ2 x10 hm gd _ => ?_)) fun ps xs H10 n10 x10 e10 r10 => ?_
      · obtain ⟨v9, hv9, rfl⟩ := gd
        intro s0 H0 C cl fp
        obtain ⟨hcm, _⟩ := cnl.2 c' hm
        have k810 := Mn.mono (M := MB b c) x10 k89
        exact jt_and (jt_cmp ok_eqI (j_op ok_add (jaw (hnet _ (C_mem hcm)) (j_var 8 rfl k810) (j_c1 (j_ch hcm (j_n1 (j_var 1 rfl (Mn.mono (x89.trans x10) ha))) (j_var 11 rfl (K := kI (c' : Int)) hv9))) (by intro _ _; rfl)) j_int) (jaw hu (j_var 8 rfl k810) (j_var 5 rfl (ku _)) (by intro _ _; rfl))) fun _ => jt_cmp ok_lt (jaw hu (j_var 8 rfl k810) (j_var 5 rfl (ku _)) (by intro _ _; rfl)) j_int
      · obtain ⟨v9, hv9, rfl⟩ := gd
        intro s0 H0 C cl fp
        exact j_var 11 rfl (K := kI (c' : Int)) hv9
      obtain ⟨sl, hsl⟩ : ∃ sl, sl = nl.filter fun c => decide (ns.getD (F.C c).v 0 + 1 = ns.getD u 0) && decide (ns.getD u 0 < 99) := ⟨_, rfl⟩
      rw [← hsl] at r10
      have ssl : sl.Sublist nl := by rw [hsl]; exact List.filter_sublist
      have ms10 : ¬ (MB b c).m ps := Md.new (M := MB b c) i9 n10
      have ks10 : kL (MB b c) (sl.map dI) H10 (.ref ps) := ⟨ps, xs, rfl, e10, r10, ms10⟩
      have kn10 := Mn.mono (M := MB b c) x10 kn9
      have x810 := x89.trans x10
      have i10 := x810.inv hi
      have o10' := (o.up x9).up x10
      have k810 := Mn.mono (M := MB b c) x10 k89
      have t10 := t8.trans (x9.trans x10).tm
      have t10' := t8'.trans (x9.trans x10).tm
      -- what a store leaves
      have k8s : ∀ {H11 H' : Hp}, Xt (MB b c) H10 H11 → (∀ p ls, H11 p = some (.lst ls) → ¬ (MB b c).m p → p ∉ qs → H' p = some (.lst ls)) → Tm H11 H' → kL (MB b c) (ns.map PyData.int) H' v8 := fun {H11 H'} x11 hkeep tt => by
        obtain ⟨p8, xs8, rfl, e8, r8, m8⟩ := Mn.mono (M := MB b c) x11 k810
        exact ⟨p8, xs8, rfl, hkeep p8 xs8 e8 m8 fun z => kq8 p8 z rfl, RpL.tm tt _ r8, m8⟩
      have inv : ∀ {H11 : Hp}, Xt (MB b c) H10 H11 → ∀ l H', CellOk F u l → Xt (MB b c) H H' → Tm H11 H' → OLL (MB b c) H H' pr qs (rowsD F.n (updG g u d l)) → (∀ p ls, H11 p = some (.lst ls) → ¬ (MB b c).m p → p ∉ qs → H' p = some (.lst ls)) →
          ∃ o5' o9' o10' g', ([some (.ref b), some a, some v2, some v3, some v4, some v5, some v6, some (.ref pr), some v8, some (.ref pn), some (.ref ps), none, none] : L2.St) = [some (.ref b), some a, some v2, some v3, some v4, o5', some v6, some (.ref pr), some v8, o9', o10', none, none] ∧ OLL (MB b c) H H' pr qs (rowsD F.n g') ∧ GOk' F g' ∧ Xt (MB b c) H H' ∧ kL (MB b c) (ns.map PyData.int) H' v8 ∧ Tm H4 H' ∧ Tm H7 H' := fun {H11} x11 l H' hl xh tt oo hkeep => ⟨some v5, some (.ref pn), some (.ref ps), _, rfl, oo, updG_ok hg hl, xh, k8s x11 hkeep tt, (t10.trans x11.tm).trans tt, (t10'.trans x11.tm).trans tt⟩
      refine s_if (M := MB b c) (jt_cmp ok_eqI (j_var 2 rfl (kkd _)) j_int) (fun q H11 x11 => ?_) fun q H11 x11 => ?_
      · refine s_store (M := MB b c) (F := F) (n := F.n) (u := u) (d := d) (x810.trans x11) (o10'.up x11) hu hd (JK.imp (j_tupL B (j_var 10 rfl (Mn.mono x11 ks10))) fun H v k => ⟨sl, csub sl ssl, k⟩) (j_var 7 rfl (o10'.up x11).own) (j_var 5 rfl (ku _)) (j_var 6 rfl (kd6 _)) fun l H' hl xh tt oo hkeep => ?_
        repeat refine s_nil ?_
        exact inv x11 l H' hl xh tt oo hkeep
      · have i11 := (x810.trans x11).inv hi
        refine s_if (M := MB b c) (jt_and (jt_cmp ok_eqI (j_var 2 rfl (kkd _)) j_int) fun _ => jt_cmp (ok_neL0 (fun e he => by obtain ⟨y, _, rfl⟩ := List.mem_map.mp he; exact ⟨rfl, by unfold dI; simp only [PyData.depth]; omega⟩) (by have := hr.un; omega)) (j_var 10 rfl (Mn.mono x11 ks10)) (JL.k j_lst0 i11)) (fun q H12 x12 => ?_) fun q H12 x12 => ?_
        · have x112 := x11.trans x12
          have hne : sl ≠ [] := fun z => by
            rw [z] at q
            rw [Bool.and_eq_true] at q
            exact absurd q.2 (by decide)
          have hpos : 0 < sl.length := List.length_pos_iff.mpr hne
          have lsl : sl.length ≤ 6 := Nat.le_trans ssl.length_le lnl
          have ks12 := Mn.mono (M := MB b c) x112 ks10
          refine s_store (M := MB b c) (F := F) (n := F.n) (u := u) (d := d) (x810.trans x112) (o10'.up x112) hu hd (j_tup1N (E := fun c => c ∈ sl) (j_ix ix_lN (j_var 10 rfl ks12) (j_draw (E := fun m => m = sl.length) fD hr (x12.inv i11) (j_var 0 rfl rfl) (JK.imp (j_lenL B (j_var 10 rfl ks12)) fun H v k => ⟨sl.length, rfl, by rw [List.length_map] at k; exact k⟩) (fun m hm => by subst hm; exact ⟨hpos, by omega, fun d hd => hd⟩))) fun c hc => csub [c] (List.singleton_sublist.mpr (ssl.mem hc))) (j_var 7 rfl (o10'.up x112).own) (j_var 5 rfl (ku _)) (j_var 6 rfl (kd6 _)) fun l H' hl xh tt oo hkeep => ?_
          repeat refine s_nil ?_
          exact inv x112 l H' hl xh tt oo hkeep
        · have x112 := x11.trans x12
          have i12 := x12.inv i11
          refine s_if (M := MB b c) (jt_cmp ok_eqI (j_var 2 rfl (kkd _)) j_int) (fun q H13 x13 => ?_) fun q H13 x13 => ?_
          · have x113 := x112.trans x13
            have i13 := x13.inv i12
            have kn13 := Mn.mono (M := MB b c) x113 kn10
            have ks13 := Mn.mono (M := MB b c) x113 ks10
            refine s_store (M := MB b c) (F := F) (n := F.n) (u := u) (d := d) (x810.trans x113) (o10'.up x113) hu hd (JK.imp (j_tupR B (JLR.k (j_lcR (bs := nl) (enc := dI) (gg := dI) (I := fun i acc => acc.Sublist (nl.take i)) (Pt := fun _ _ => True) (Pe := fun c x => x = c) rfl sc48.nd bk48_4 (fun s H C cl fp => pg_name (i := 11) sc48.nd rfl (Or.inl rfl)) (JIL.x (jil_of (j_var 9 rfl kn13))) (by omega) (tg_name fun v => rfl) (fun H14 c' σ2 x14 hm gd s0 H0 C cl fp => jtes_one ?_) (fun H14 c' σ2 x14 hm gd s0 H0 C cl fp => ?_) (List.Sublist.refl _) (fun i acc h => subl_len h) (fun i c' acc hb h _ => subl_up hb h) (fun i c' acc x hb h _ hx => by rw [hx]; exact subl_add hb h) i13) i13)) fun H v ⟨l, hl, k⟩ => ⟨l, csub l (by rw [List.take_length] at hl; exact hl), k⟩) (j_var 7 rfl (o10'.up x113).own) (j_var 5 rfl (ku _)) (j_var 6 rfl (kd6 _)) fun l H' hl xh tt oo hkeep => ?_
            · obtain ⟨v9, hv9, rfl⟩ := gd
              exact jte_or (jt_cmp ok_inLN (j_var 11 rfl (K := kI (c' : Int)) hv9) (j_var 10 rfl (Mn.mono (M := MB b c) x14 ks13))) (jte_cmp eq_NI (j_draw (E' := fun _ => True) fD (by exact hr) (x14.inv i13) (j_var 0 rfl rfl) (j_N (n := 3) j_int) (fun m hm => by subst hm; exact ⟨by omega, by omega, fun d hd => trivial⟩)) j_int)
            · obtain ⟨v9, hv9, rfl⟩ := gd
              exact JK.imp (j_var 11 rfl (K := kI (c' : Int)) hv9) fun H v k => ⟨c', rfl, k⟩
            · repeat refine s_nil ?_
              exact inv x113 l H' hl xh tt oo hkeep
          · have x113 := x112.trans x13
            have i13 := x13.inv i12
            refine s_if (M := MB b c) (jt_cmp ok_eqI (j_var 2 rfl (kkd _)) j_int) (fun q H14 x14 => ?_) fun q H14 x14 => ?_
            · have x114 := x113.trans x14
              have i14 := x14.inv i13
              have kn14 := Mn.mono (M := MB b c) x114 kn10
              have k814 := Mn.mono (M := MB b c) x114 k810
              refine s_store (M := MB b c) (F := F) (n := F.n) (u := u) (d := d) (x810.trans x114) (o10'.up x114) hu hd (JK.imp (K := kD (.tuple ((nl.filter fun c => decide (ns.getD (F.C c).v 0 < 99)).map dI))) (j_tupL B (JL.k (j_lc (bs := nl) (enc := dI) (gg := dI) (f := fun c => decide (ns.getD (F.C c).v 0 < 99)) rfl sc48.nd bk48_5 (fun s H C cl fp => pg_name (i := 11) sc48.nd rfl (Or.inl rfl)) (JIL.x (jil_of (j_var 9 rfl kn14))) (by omega) (tg_name fun v => rfl) i14 (fun H15 c' σ2 x15 hm gd => jbts_one ?_) (fun H15 c' σ2 x15 hm gd _ => ?_)) i14)) fun H v k => ⟨_, csub _ List.filter_sublist, k⟩) (j_var 7 rfl (o10'.up x114).own) (j_var 5 rfl (ku _)) (j_var 6 rfl (kd6 _)) fun l H' hl xh tt oo hkeep => ?_
              · obtain ⟨v9, hv9, rfl⟩ := gd
                intro s0 H0 C cl fp
                obtain ⟨hcm, _⟩ := cnl.2 c' hm
                exact jt_cmp ok_lt (jaw (hnet _ (C_mem hcm)) (j_var 8 rfl (Mn.mono (M := MB b c) x15 k814)) (j_c1 (j_ch hcm (j_n1 (j_var 1 rfl (Mn.mono ((x810.trans x114).trans x15) ha))) (j_var 11 rfl (K := kI (c' : Int)) hv9))) (by intro _ _; rfl)) j_int
              · obtain ⟨v9, hv9, rfl⟩ := gd
                intro s0 H0 C cl fp
                exact j_var 11 rfl (K := kI (c' : Int)) hv9
              · repeat refine s_nil ?_
                exact inv x114 l H' hl xh tt oo hkeep
            · have x114 := x113.trans x14
              have i14 := x14.inv i13
              refine s_if (M := MB b c) (jt_cmp ok_eqI (j_var 2 rfl (kkd _)) j_int) (fun q H15 x15 => ?_) fun q H15 x15 => ?_
              · have x115 := x114.trans x15
                have i15 := x15.inv i14
                have kn15 := Mn.mono (M := MB b c) x115 kn10
                refine s_store (M := MB b c) (F := F) (n := F.n) (u := u) (d := d) (x810.trans x115) (o10'.up x115) hu hd (JK.imp (j_tupR B (JLR.k (j_lcR (bs := nl) (enc := dI) (gg := dI) (I := fun i acc => acc.Sublist (nl.take i)) (Pt := fun _ _ => True) (Pe := fun c x => x = c) rfl sc48.nd bk48_6 (fun s H C cl fp => pg_name (i := 11) sc48.nd rfl (Or.inl rfl)) (JIL.x (jil_of (j_var 9 rfl kn15))) (by omega) (tg_name fun v => rfl) (fun H16 c' σ2 x16 hm gd s0 H0 C cl fp => jtes_one ?_) (fun H16 c' σ2 x16 hm gd s0 H0 C cl fp => ?_) (List.Sublist.refl _) (fun i acc h => subl_len h) (fun i c' acc hb h _ => subl_up hb h) (fun i c' acc x hb h _ hx => by rw [hx]; exact subl_add hb h) i15) i15)) fun H v ⟨l, hl, k⟩ => ⟨l, csub l (by rw [List.take_length] at hl; exact hl), k⟩) (j_var 7 rfl (o10'.up x115).own) (j_var 5 rfl (ku _)) (j_var 6 rfl (kd6 _)) fun l H' hl xh tt oo hkeep => ?_
                · obtain ⟨v9, hv9, rfl⟩ := gd
                  exact jte_cmp lt_NN (j_draw (E' := fun _ => True) fD (by exact hr) (x16.inv i15) (j_var 0 rfl rfl) (j_N (n := 3) j_int) (fun m hm => by subst hm; exact ⟨by omega, by omega, fun d hd => trivial⟩)) (j_N (j_var 4 rfl (ks _)))
                · obtain ⟨v9, hv9, rfl⟩ := gd
                  exact JK.imp (j_var 11 rfl (K := kI (c' : Int)) hv9) fun H v k => ⟨c', rfl, k⟩
                · repeat refine s_nil ?_
                  exact inv x115 l H' hl xh tt oo hkeep
              · have x115 := x114.trans x15
                repeat refine s_nil ?_
                exact ⟨some v5, some (.ref pn), some (.ref ps), g, rfl, o10'.up x115, hg, x810.trans x115, Mn.mono (M := MB b c) x115 k810, t10.trans x115.tm, t10'.trans x115.tm⟩
    · rintro σ' H8 ⟨o5, o9, o10, g, rfl, o, hg, x8, k88, t8, t8'⟩
      exact s_nil ⟨o5, some v6, some v8, o9, o10, g, rfl, o, hg, x8, t8⟩
  · rintro σ' H5 ⟨o5, o6, o8, o9, o10, g, rfl, o, hg, x5, t5⟩
    refine s_ret (M := MB b c) (K := kX (fun tb => (⟨F.n, F.ch, tb⟩ : Fab).Ok) dTbl) (JK.imp (j_tupL B (JL.k (j_lcLL (i := 12) (own := O48_7) rfl sc48.nd bk48_7 (fun s H C cl fp => pg_name (i := 12) sc48.nd rfl (Or.inl rfl)) (j_var 7 rfl o.k) (by unfold rowsD; rw [List.length_map, List.length_range]; omega) (fun v => rfl) (fun H9 ds u x9 ku s0 H0 C cl fp => j_tupL B (j_var 12 rfl ku)) (x5.inv hi)) (x5.inv hi))) fun H' v k => ⟨tabOf F.n g, tab_ok ok hg, ?_⟩) fun v H6 x6 k => hq v H6 (x5.trans x6) k
    have e : dTbl (tabOf F.n g) = .tuple ((rowsD F.n g).map .tuple) := by
      unfold dTbl tabOf rowsD
      rw [List.map_map, List.map_map]
      congr 1
      refine List.map_congr_left fun u _ => ?_
      show PyData.tuple (((List.range F.n).map (g u)).map dNs) = _
      rw [List.map_map]
      rfl
    rw [e]
    exact k
end
end K68

set_option Elab.async false
set_option linter.all false
set_option maxRecDepth 100000
set_option maxHeartbeats 1000000
/-! K68, text C9: _law_worm_fabric. -/
namespace K68
open PySem PySem.Spec L2
open PyProof.Rows hiding St
section
variable {M : Md} {X : Cx} {a b e eb : Expr} {σ : L2.St} {H : Hp} {pos p2 : Pos}
/-- [..][draw] -/
theorem ix_lX {ds : List PyData} {γ : Type} {E : Nat → Prop} {E' : γ → Prop} {gg : γ → PyData} (h : ∀ i, E i → ∃ d, ds[i]? = some (gg d) ∧ E' d) : IxK M X (kL M ds) (kN E) (kX E' gg) := ⟨_, ix_list, fun H x y Q a ⟨i, hi, b⟩ q => by
  obtain ⟨p, xs, rfl, e, r, _⟩ := a
  obtain ⟨d, hd, he⟩ := h i hi
  obtain ⟨v, h1, h2⟩ := rpl_atI (i := (i : Int)) r (atI_nat hd)
  exact ⟨p, xs, i, v, rfl, kI_eq b, SqL.of e, h1, q v H (Xt.refl H) ⟨d, he, h2⟩⟩⟩
theorem j_lstN {es : List Expr} {Ks : List Kn} {ds : List PyData} (ha : JA M X es σ H Ks) (hn : ∀ H vs, KAll Ks H vs → RpL H vs ds) (hl : ds.length ≤ 100 := by decide) : JL M X (.List es pos) σ H ds := fun H1 x Q q =>
  we_of (pe_lst pa_wa) (ha H1 x _ fun vs H2 y k => by
    have r := hn H2 vs k
    refine ⟨?_, fun p hp => q p vs _ (y.free p hp) (y.trans (Xt.new hp)) upd_same (RpL.tm (Xt.new (M := M) hp).tm _ r)⟩
    rw [r.length]
    exact Nat.le_trans hl (by decide))
/-- channels[:k] -/
theorem j_cutToC {E E' : List Ch → Prop} {k : Nat} (h : JK M X a σ H (kX E dChs)) (hb : JK M X eb σ H (kI (k : Int))) (hE : ∀ cs, E cs → E' (cs.take k)) : JK M X (.Subscript a (.Slice none (some eb) none p2) pos) σ H (kX E' dChs) := by
  intro H1 x Q q
  refine we_of (pe_slice sl_tupA pe_we po_none (po_some pe_we)) (h H1 x _ fun v H2 y k0 => hb H2 (x.trans y) _ fun w H3 z kw => ⟨(k : Int), kI_eq kw, ?_⟩)
  obtain ⟨cs, hcs, kc⟩ := Mn.mono (M := M) z k0
  obtain ⟨p, xs, rfl, e, r⟩ := rp_tup kc
  have ec : dChs (cs.take k) = .tuple (cutD (cs.map dCh) none (some (k : Int))) := by
    rw [cut_to]
    unfold dChs
    rw [List.map_take]
  refine ⟨p, xs, rfl, SqT.of e, fun w => ?_, fun w p' hp => ?_⟩
  · refine q _ H3 (y.trans z) ⟨cs.take k, hE cs hcs, ?_⟩
    have e2 : cutD (cs.map dCh) none (some (k : Int)) = cs.map dCh := by
      unfold cutD
      rw [← r.length]
      exact cut_whole _ w.1 (by rw [w.2, r.length])
    rw [ec, e2]
    exact kc
  · refine q _ _ ((y.trans z).trans (Xt.new hp)) ⟨cs.take k, hE cs hcs, ?_⟩
    rw [ec]
    exact Rp.tup upd_same (RpL.tm (Xt.new (M := M) hp).tm _ (rpl_cut r none (some (k : Int))))
theorem ka_ints : ∀ (ns : List Nat) (H : Hp) (vs : List V), KAll (ns.map fun (n : Nat) => kI (n : Int)) H vs → RpL H vs (ns.map dI)
  | [], H, vs, h => by
    have h : vs = [] := h
    rw [h]; exact .nil
  | n :: ns, H, vs, h => by
    obtain ⟨v, r, rfl, h1, h2⟩ := h
    exact .cons h1 (ka_ints ns H r h2)
/-- a pair of which the second is known by a relation -/
theorem j_pairX {γ : Type} {E : γ → Prop} {gg : γ → PyData} {d1 : PyData} {k : Nat} (h1 : JK M X a σ H (kD d1)) (h2 : JK M X b σ H (kX E gg)) (hs : starEach [a, b] X.env = (false, eval a X.env) :: starEach [b] X.env := by rfl) (hs1 : starEach [b] X.env = (false, eval b X.env) :: starEach [] X.env := by rfl) : JK M X (.Tuple [a, b] k pos) σ H (kX E fun t => .tuple [d1, gg t]) := fun H1 x Q q =>
  we_of (pe_tup pa_wa) (ja_cons h1 (ja_cons h2 ja_nil hs1) hs H1 x _ fun vs H2 y k => by
    obtain ⟨v, w, rfl, r1, t, ht, r2⟩ := k2 k
    refine ⟨show 2 ≤ sizeLine by decide, fun p hp => q _ _ (y.trans (Xt.new hp)) ⟨t, ht, ?_⟩⟩
    have tm := (Xt.new (M := M) (H := H2) (p := p) (o := .tup [v, w]) hp).tm
    exact Rp.tup upd_same (.cons (Rp.tm tm _ r1) (.cons (Rp.tm tm _ r2) .nil)))
end
section
variable {P : Program} {w : World} {K : PySem.W.Frag} {mg : Str → Option Value} {base : Heap} {f : Addr} {fd : FuncData}
def spWf : Sp := fun vs H Q _ => ∃ (b c : Addr), boxI b c H ∧ KAll [kE (.ref b), kI ((6 : Nat) : Int)] H vs ∧ RetK (MB b c) (kX (fun F : Fab => F.Ok ∧ 2 ≤ F.n) Fab.d) H Q
theorem fnWf (B : Blt mg) (F : Fun K "_law_worm_fabric" "_law_worm_fabric" (topS 49) f fd) (hm : mg "_law_worm_fabric" = some (.ref f)) (fD : FnK P w K mg base "_law_draw" A43 2 spDr) (fR : FnK P w K mg base "_law_ring" A45 4 spRi) (fC : FnK P w K mg base "_law_channels" A44 3 spCh) (fT : FnK P w K mg base "_law_thin" A47 1 spTh) (fDt : FnK P w K mg base "_law_drawn_table" A48 3 spDt) : FnK P w K mg base "_law_worm_fabric" A49 5 spWf := by
  refine fn_sp F hm sc49 (fun vs H Q E ⟨_, _, _, h, _⟩ => kall_len h) (fun _ _ _ _ _ _ us hl => match us, hl with | [_, _], _ => rfl) fun cdv A outer s H vs Q E hr ⟨b, c, hi, hk, hq⟩ => ?_
  obtain ⟨v0, v1, rfl, e0, kk⟩ := k2 hk
  have e0 : v0 = .ref b := e0
  subst e0
  have km : ∀ H', kI (6 : Int) H' v1 := fun H' => by rw [kI_eq kk]; exact kI_of
  have hr2 : Room 2 (DX P w K mg base N49 "_law_worm_fabric" (topS 49) f cdv A outer s H E).A := hr.mono (by decide)
  refine s_asg (M := MB b c) 2 sc49.nd (K := kN fun n => 2 ≤ n ∧ n ≤ 4) (j_if (t := decide ((6 : Int) < 7)) (jt_cmp ok_lt (j_var 1 rfl (km _)) j_int) (fun _ => j_ix (ix_lX (ds := [2, 3, 3, 3, 4, 4].map dI) (E := fun i => i < 6) ?_) (JL.k (j_lstN (Ks := [2, 3, 3, 3, 4, 4].map fun (n : Nat) => kI (n : Int)) (ja_cons j_int (ja_cons j_int (ja_cons j_int (ja_cons j_int (ja_cons j_int (ja_cons j_int ja_nil)))))) (fun H vs h => ka_ints _ H vs h)) hi) (j_draw fD hr2 hi (j_var 0 rfl rfl) (j_N (n := 6) j_int) (fun m hm => by subst hm; exact ⟨by omega, by omega, fun d hd => hd⟩))) fun q => absurd q (by decide)) fun v2 H1 x1 k2 => ?_
  · intro i hi
    have : i = 0 ∨ i = 1 ∨ i = 2 ∨ i = 3 ∨ i = 4 ∨ i = 5 := by omega
    rcases this with rfl | rfl | rfl | rfl | rfl | rfl
    · exact ⟨2, rfl, by decide⟩
    · exact ⟨3, rfl, by decide⟩
    · exact ⟨3, rfl, by decide⟩
    · exact ⟨3, rfl, by decide⟩
    · exact ⟨4, rfl, by decide⟩
    · exact ⟨4, rfl, by decide⟩
  obtain ⟨n, ⟨hn2, hn4⟩, kn0⟩ := k2
  have kn : ∀ H', kI (n : Int) H' v2 := fun H' => by rw [kI_eq (i := (n : Int)) kn0]; exact kI_of
  have i1 := x1.inv hi
  refine s_asg (M := MB b c) 3 sc49.nd (K := kN fun r => 1 ≤ r ∧ r ≤ 1000) (j_ix (ix_lX (ds := [3, 3, 1000].map dI) (E := fun i => i < 3) ?_) (JL.k (j_lstN (Ks := [3, 3, 1000].map fun (n : Nat) => kI (n : Int)) (ja_cons j_int (ja_cons j_int (ja_cons j_int ja_nil))) (fun H vs h => ka_ints _ H vs h)) i1) (j_draw fD hr2 i1 (j_var 0 rfl rfl) (j_N (n := 3) j_int) (fun m hm => by subst hm; exact ⟨by omega, by omega, fun d hd => hd⟩))) fun v3 H2 x2 k3 => ?_
  · intro i hi
    have : i = 0 ∨ i = 1 ∨ i = 2 := by omega
    rcases this with rfl | rfl | rfl
    · exact ⟨3, rfl, by decide⟩
    · exact ⟨3, rfl, by decide⟩
    · exact ⟨1000, rfl, by decide⟩
  obtain ⟨mo, ⟨hm1, hm2⟩, km0⟩ := k3
  have kmo : ∀ H', kI (mo : Int) H' v3 := fun H' => by rw [kI_eq (i := (mo : Int)) km0]; exact kI_of
  have x02 := x1.trans x2
  have i2 := x02.inv hi
  -- what stands behind the choice of the channels
  have rest : ∀ v4 H', Xt (MB b c) H H' → kX (fun cs : List Ch => cs.length ≤ 5 ∧ ∀ x ∈ cs, chOk n x) dChs H' v4 → WSs (DX P w K mg base N49 "_law_worm_fabric" (topS 49) f cdv A outer s H E) ((defBody (topS 49)).drop 4) { nx := fun _ H' => Q .non H', rt := Q } [some (.ref b), some v1, some v2, some v3, some v4, none] H' := by
    intro v4 H3 x3 ⟨cs, ⟨hl, hc⟩, k4⟩
    have i3 := x3.inv hi
    have k4 : kD (dChs cs) H3 v4 := k4
    refine s_asg (M := MB b c) 4 sc49.nd (K := kX (fun cs : List Ch => cs.length ≤ 6 ∧ ∀ x ∈ cs, chOk n x) dChs) (j_op (ok_catC (E := fun y => y = cs) (E' := fun y => y.length < 7 - cs.length ∧ ∀ x ∈ y, chOk n x) (fun i j hi hj => ⟨by rw [List.length_append, hi]; have := hj.1; omega, fun x hx => (List.mem_append.mp hx).elim (fun h => hc x (hi ▸ h)) (hj.2 x)⟩) fun i j hi hj => by rw [hi]; have := hj.1; omega) (JK.imp (j_var 4 rfl k4) fun H v k => ⟨cs, rfl, k⟩)
      (j_call fC (hr.mono (by decide : 3 ≤ 4)) (by rfl) (ja_cons (K := kE (.ref b)) (j_var 0 rfl rfl) (ja_cons (j_var 2 rfl (kn _)) (ja_cons (K := kN fun d => d < 7 - cs.length) (j_draw (E := fun m => m = 7 - cs.length) fD hr2 i3 (j_var 0 rfl rfl) (JK.imp (j_op ok_sub (j_op ok_add (j_var 1 rfl (km _)) j_int) (j_lenT B (j_var 4 rfl k4))) fun H v k => ⟨7 - cs.length, rfl, by
        rw [show dI (7 - cs.length) = .int ((6 : Int) + 1 - ((cs.map dCh).length : Int)) by unfold dI; congr 1; rw [List.length_map]; omega]
        exact k⟩) (fun m hm => by subst hm; exact ⟨by omega, by omega, fun d hd => hd⟩)) (ja_cons (j_var 3 rfl (kmo _)) ja_nil)))) fun vs H2 Q y k q => ?_)) fun v5 H5 x5 k5 => ?_
    · obtain ⟨w0, w1, w2, w3, rfl, q0, q1, ⟨d, hd, q2⟩, q3⟩ := K68.k4 k
      exact ⟨b, c, n, d, mo, y.inv i3, ⟨hn2, by omega, by omega, hm1, hm2⟩, ⟨_, _, rfl, q0, _, _, rfl, q1, _, _, rfl, q2, _, _, rfl, q3, rfl⟩, fun v H3 z k => q v H3 z (by
        obtain ⟨cs', ⟨h1, h2⟩, k⟩ := k
        exact ⟨cs', ⟨by omega, h2⟩, k⟩)⟩
    obtain ⟨cs2, ⟨hl2, hc2⟩, k5⟩ := k5
    have k5 : kD (dChs cs2) H5 v5 := k5
    have x35 := x3.trans x5
    have i5 := x35.inv hi
    have net : NetOk ⟨n, cs2, []⟩ := ⟨hn2, hn4, hl2, hc2⟩
    refine s_asg (M := MB b c) 5 sc49.nd (K := kD (Fab.dNet ⟨n, cs2, []⟩)) (j_tup2 (j_var 2 rfl (kn _)) (j_var 4 rfl k5)) fun v6 H6 x6 k6 => ?_
    have x36 := x35.trans x6
    have i6 := x36.inv hi
    refine s_ret (M := MB b c) (JK.imp (K := kX (fun tb => (⟨n, cs2, tb⟩ : Fab).Ok) fun tb => .tuple [Fab.dNet ⟨n, cs2, []⟩, dTbl tb]) (j_pairX (j_var 5 rfl k6) (j_call (K := kX (fun tb => (⟨n, cs2, tb⟩ : Fab).Ok) dTbl) fT (hr.mono (by decide : 1 ≤ 4)) (by rfl) (ja_cons (K := kD (Fab.dNet ⟨n, cs2, []⟩)) (j_var 5 rfl k6) (ja_cons (K := kX (fun tb => (⟨n, cs2, tb⟩ : Fab).Ok) dTbl) (j_call (K := kX (fun tb => (⟨n, cs2, tb⟩ : Fab).Ok) dTbl) fDt (hr.mono (by decide : 3 ≤ 4)) (by rfl) (ja_cons (K := kE (.ref b)) (j_var 0 rfl rfl) (ja_cons (j_var 5 rfl k6) (ja_cons (K := kN fun d => d < 5) (j_draw fD hr2 i6 (j_var 0 rfl rfl) (j_N (n := 5) j_int) (fun m hm => by subst hm; exact ⟨by omega, by omega, fun d hd => hd⟩)) ja_nil))) fun vs H2 Q y k q => ?_) ja_nil)) fun vs H2 Q y k q => ?_)) fun H v ⟨tb, htb, k⟩ => ⟨⟨n, cs2, tb⟩, ⟨htb, hn2⟩, k⟩) fun v H7 x7 k => hq v H7 (x36.trans x7) k
    · obtain ⟨w0, w1, w2, rfl, q0, q1, ⟨d, hd, q2⟩⟩ := K68.k3 k
      exact ⟨b, c, ⟨n, cs2, []⟩, d, y.inv i6, net, ⟨_, _, rfl, q0, _, _, rfl, q1, _, _, rfl, q2, rfl⟩, q⟩
    · obtain ⟨w0, w1, rfl, q0, ⟨tb, htb, q1⟩⟩ := K68.k2 k
      exact ⟨⟨n, cs2, tb⟩, htb, hn2, ⟨_, _, rfl, q0, _, _, rfl, q1, rfl⟩, q.pure⟩
  refine s_asg (M := MB b c) 4 sc49.nd (K := kX (fun cs : List Ch => cs.length ≤ 5 ∧ ∀ x ∈ cs, chOk n x) dChs) (j_cutToC (E := fun cs => ∀ x ∈ cs, chOk n x) (k := n + 1) (j_call fR hr (by rfl) (ja_cons (K := kE (.ref b)) (j_var 0 rfl rfl) (ja_cons (j_var 2 rfl (kn _)) (ja_cons (j_var 3 rfl (kmo _)) ja_nil))) fun vs H2 Q y k q => ⟨b, c, n, mo, y.inv i2, ⟨hn2, by omega, hm1, hm2⟩, k, q⟩) (by
    have e : ((n + 1 : Nat) : Int) = (n : Int) + 1 := by omega
    rw [e]
    exact j_op ok_add (j_var 2 rfl (kn _)) j_int) fun cs h => ⟨by rw [List.length_take]; omega, fun x hx => h x (List.mem_of_mem_take hx)⟩) fun v4 H3 x3 k4 => ?_
  have x03 := x02.trans x3
  have i3 := x03.inv hi
  refine s_ifE (M := MB b c) (jte_cmp eq_NI (j_draw (E' := fun _ => True) fD hr2 i3 (j_var 0 rfl rfl) (j_N (n := 2) j_int) (fun m hm => by subst hm; exact ⟨by omega, by omega, fun d hd => trivial⟩)) j_int) (fun H4 x4 => ?_) fun H4 x4 => s_nil (rest v4 H4 (x03.trans x4) (Mn.mono (M := MB b c) x4 k4))
  have x04 := x03.trans x4
  have i4 := x04.inv hi
  refine s_asg (M := MB b c) 4 sc49.nd (K := kX (fun cs : List Ch => cs.length ≤ 5 ∧ ∀ x ∈ cs, chOk n x) dChs) (j_call fC (hr.mono (by decide : 3 ≤ 4)) (by rfl) (ja_cons (K := kE (.ref b)) (j_var 0 rfl rfl) (ja_cons (j_var 2 rfl (kn _)) (ja_cons (K := kN fun d => d < 5) (j_op (ok_addN (E := fun x => x = 2) (E' := fun x => x < 3) fun i j hi hj => by omega) (j_N (n := 2) j_int) (j_draw fD hr2 i4 (j_var 0 rfl rfl) (j_N (n := 3) j_int) (fun m hm => by subst hm; exact ⟨by omega, by omega, fun d hd => hd⟩))) (ja_cons (j_var 3 rfl (kmo _)) ja_nil)))) fun vs H2 Q y k q => ?_) fun v5 H5 x5 k5 => s_nil (rest v5 H5 (x04.trans x5) k5)
  obtain ⟨w0, w1, w2, w3, rfl, q0, q1, ⟨d, hd, q2⟩, q3⟩ := K68.k4 k
  exact ⟨b, c, n, d, mo, y.inv i4, ⟨hn2, by omega, by omega, hm1, hm2⟩, ⟨_, _, rfl, q0, _, _, rfl, q1, _, _, rfl, q2, _, _, rfl, q3, rfl⟩, fun v H3 z k => q v H3 z (by
    obtain ⟨cs', ⟨h1, h2⟩, k⟩ := k
    exact ⟨cs', ⟨by omega, h2⟩, k⟩)⟩
end
end K68

set_option Elab.async false
set_option linter.all false
set_option maxRecDepth 100000
set_option maxHeartbeats 2000000
/-! K68, text B22: the law. -/
namespace K68
open PySem PySem.Spec L2 PySem.W
open PyProof.Rows hiding St
theorem crit_ex {F : Fab} : ∀ k : Nat, 1 ≤ k → k ≤ 1000000 → F.kn k ≠ none → ∃ c, CritP F c
  | 0, h, _, _ => by omega
  | k + 1, _, h2, h3 => by
    by_cases h0 : k = 0
    · subst h0
      exact ⟨1, Nat.le_refl _, by omega, h3, .inl rfl⟩
    · by_cases z : F.kn k = none
      · exact ⟨k + 1, by omega, h2, h3, .inr z⟩
      · exact crit_ex k (by omega) (by omega) z
theorem crit_ok {F : Fab} (ok : F.Ok) (h : F.kn 1000000 ≠ none) : CritP F F.crit := by
  obtain ⟨c, hc⟩ := crit_ex 1000000 (by omega) (Nat.le_refl _) h
  rw [crit_of ok hc]
  exact hc
theorem isNd_kn (o : Option (List Pr)) : isNd (dKn o) = o.isNone := by cases o <;> rfl
theorem isNd_gk (F : Fab) : isNd F.dGk = decide (F.G = []) := by
  unfold Fab.dGk
  by_cases h : F.G = []
  · rw [if_pos h, decide_eq_true h]; rfl
  · rw [if_neg h, decide_eq_false h]; rfl
theorem JK.is' {M : Md} {X : Cx} {e : Expr} {σ : L2.St} {H : Hp} {K K' : Kn} (h : JK M X e σ H K) (i : K = K') : JK M X e σ H K' := i ▸ h
theorem kn_srch {F : Fab} {L : Nat} (h : F.kn L = none) : ∃ t, F.srch L 7 [] [] = .tree t := by
  unfold Fab.kn at h
  cases e : F.srch L 7 [] [] with
  | tree t => exact ⟨t, rfl⟩
  | knot q => rw [e] at h; cases h
section
variable {P : Program} {w : World} {K : PySem.W.Frag} {mg : Str → Option Value} {base : Heap} {f : Addr} {fd : FuncData} {tbs : List Addr} {cT PT : Addr}
def spLw (K : PySem.W.Frag) (tbs : List Addr) : Sp := fun vs H Q _ => ∃ ns : List Int, (∀ P ∈ tbs, GxR.TabG H P) ∧ KAll [kSq K ns] H vs ∧ ∀ H', Q (.bl true) H'
theorem fn_spO {x : Str} {st : Stmt} {N ps : List Str} {k : Nat} {sp : Sp} (F : Fun K x x st f fd) (S : FnScope N ps (defScope st)) (len : ∀ vs H Q E, sp vs H Q E → vs.length = ps.length)
    (body : ∀ (cdv : Value) (A : Around) (outer : List Env) (s : Shared) (H : Hp) (vs : List V) (Q : VK) (E : XK), Room k (DX P w K mg base N x st f cdv A outer s H E).A → sp vs H Q E →
      WSs (DX P w K mg base N x st f cdv A outer s H E) (defBody st) { nx := fun _ H' => Q .non H', rt := Q } (start N vs) H) : FnOk P w K mg base CX0 (k + 1) f fd ps sp :=
  F.ok S len fun cdv A outer s H vs Q E hr hsp => ⟨_, pss_wss, body cdv A outer s H vs Q E hr hsp⟩
theorem fnLw (B : Blt mg) (F : Fun K "law" "law" (topS 50) f fd) (fB : FnK P w K mg base "_law_box" A41 1 (spBx K)) (fW : FnK P w K mg base "_law_worm_fabric" A49 5 spWf) (fCo : FnK P w K mg base "case_of" A29 1 spCo) (fG : FnK P w K mg base "greatest_knot" A39 5 (spGk tbs)) (fF : FnK P w K mg base "find_worm_knot" A26 16 (spFk tbs)) (fK : FnK P w K mg base "is_worm_knot" A25 5 (spWk tbs))
    (fC : FnK P w K mg base "critical_length" A27 17 (spCl tbs)) (fV : FnK P w K mg base "worm_verdict" A19 15 (spWv tbs)) (fL : FnK P w K mg base "least_ranks" A38 5 (spLr tbs)) (fD : FnK P w K mg base "_law_draw" A43 2 spDr) (fS : FnK P w K mg base "is_search_tree" A21 14 (spSt tbs 7)) : FnOk P w K mg base CX0 18 f fd A50 (spLw K tbs) := by
  refine fn_spO F sc50 (fun vs H Q E ⟨_, _, h, _⟩ => kall_len h) fun cdv A outer s H vs Q E hr ⟨ns, ht, hk, hq⟩ => ?_
  obtain ⟨v0, rfl, k0⟩ := k1 hk
  refine s_cons (ws_of (ps_set sc50.nd (i := 1) rfl (Or.inl rfl) pe_we) ?_)
  refine we_call (M := M0) fB (hr.mono (by decide : 1 ≤ 17)) (by rfl) (ja_cons (K := kSq K ns) (j_var 0 rfl k0) (ja_cons (K := kI 0) j_int ja_nil)) fun vs H1 x1 k => ⟨ns, 0, k, fun b c H2 nb nc x2 hi => ?_⟩
  have ht2 := tabs_up (x1.trans x2) ht
  show WSs _ _ _ _ _
  refine s_asg (M := MB b c) 2 sc50.nd (K := kX (fun F : Fab => F.Ok ∧ 2 ≤ F.n) Fab.d) (j_call fW (hr.mono (by decide : 5 ≤ 17)) (by rfl) (ja_cons (K := kE (.ref b)) (j_var 1 rfl rfl) (ja_cons (K := kI ((6 : Nat) : Int)) j_int ja_nil)) fun vs H3 Q y k q => ⟨b, c, y.inv hi, k, q⟩) fun v2 H3 x3 k2 => ?_
  obtain ⟨F, ⟨ok, hn2⟩, kf⟩ := k2
  have kf : kD F.d H3 v2 := kf
  have i3 := x3.inv hi
  have ht3 := tabs_up x3 ht2
  refine s_asg (M := MB b c) 3 sc50.nd (K := kD F.dCase) (j_def F fCo (hr.mono (by decide : 1 ≤ 17)) trivial no_tabs (ja_cons (j_var 2 rfl kf) ja_nil)) fun v3 H4 x4 k3 => ?_
  have ht4 := tabs_up x4 ht3
  refine s_asg (M := MB b c) 4 sc50.nd (K := kD F.dGk) (j_def F fG (hr.mono (by decide : 5 ≤ 17)) ok ht4 (ja_cons (j_var 3 rfl k3) ja_nil)) fun v4 H5 x5 k4 => ?_
  have x35 := x4.trans x5
  refine s_asg (M := MB b c) 5 sc50.nd (K := kD (dKn (F.kn 1))) (j_def (F, 1) fF (hr.mono (by decide : 16 ≤ 17)) ok (tabs_up x35 ht3) (ja_cons (j_var 2 rfl (Mn.mono x35 kf)) (ja_cons (K := kI ((1 : Nat) : Int)) j_int ja_nil))) fun v5 H6 x6 k5 => ?_
  have x36 := x35.trans x6
  have kf6 := Mn.mono (M := MB b c) x36 kf
  have k36 := Mn.mono (M := MB b c) (x5.trans x6) k3
  have k46 := Mn.mono (M := MB b c) x6 k4
  have ht6 := tabs_up x36 ht3
  have i6 := x36.inv i3
  clear ht2 ht4 k3 k4 kf x1 x2
  have hGk := G_kn ok
  refine s_when (M := MB b c) (t := false) (JT.is (jt_cmp ok_neB (j_cmp ok_isD (j_var 4 rfl k46) j_non) (j_cmp ok_isD (j_var 5 rfl k5) j_non)) ?_) (fun q => absurd q Bool.false_ne_true) fun _ H7 x7 => ?_
  · rw [isNd_gk, isNd_kn]
    have e : decide (F.G = []) = (F.kn 1).isNone := by
      cases e : F.kn 1 with
      | none => exact decide_eq_true (hGk.mpr e)
      | some q => exact decide_eq_false fun z => by have := hGk.mp z; rw [e] at this; cases this
    rw [e, decide_eq_true rfl]
    rfl
  have kf7 := Mn.mono (M := MB b c) x7 kf6
  have k57 := Mn.mono (M := MB b c) x7 k5
  have k47 := Mn.mono (M := MB b c) x7 k46
  have i7 := x7.inv i6
  refine s_when (M := MB b c) (t := false) (JT.is (jt_and (t := !(F.kn 1).isNone) (u := false) (JT.is (jt_cmp ok_isntD (j_var 5 rfl k57) j_non) (by rw [isNd_kn])) fun q => ?_) (by rw [Bool.and_false])) (fun q => absurd q Bool.false_ne_true) fun _ H8 x8 => ?_
  · cases e : F.kn 1 with
    | none => rw [e] at q; cases q
    | some q1 =>
      rw [e] at k57
      have k57 : kD (dPrs q1) H7 v5 := k57
      have wk := (kn_some ok e).wk
      have hl6 := (wk.len ok).1
      refine jt_val (JK.is (d := .bool ((q1.map fun (p : Pr) => !decide ((p.2.length : Int) = 1)).any id)) (j_callB (ck_any (by rfl)) (by rfl) B.any bt_any (ja_cons (JL.k (JL.is (j_lcT (bs := q1) (enc := dPr) (gg := fun (p : Pr) => .bool (!decide ((p.2.length : Int) = 1))) rfl sc50.nd bk50_0 (fun s H C cl fp => pg_tup rfl (pgs_cons (pg_name (i := 10) sc50.nd rfl (Or.inl rfl)) (pgs_cons (pg_name (i := 11) sc50.nd rfl (Or.inl rfl)) pgs_nil))) (JI.x (ji_tup (j_var 5 rfl k57))) (by omega) (tg_pair (e1 := fun p : Pr => dI p.1) (e2 := fun p : Pr => dNs p.2) fun v w => rfl) (fun H9 p σ2 x9 hp gd => ?_) i7) (by rw [List.map_map]; rfl)) i7) ja_nil) (by decide) (by decide) rfl rfl) ?_)
      · obtain ⟨v, w, r1, r2, rfl⟩ := gd
        intro s0 H0 C cl fp
        exact j_cmp ok_neI (j_lenNs B (j_var 11 rfl (K := kD (dNs p.2)) r2)) j_int
      · congr 1
        rw [← Bool.not_eq_true, List.any_eq_true]
        rintro ⟨bb, hb, ht⟩
        obtain ⟨p, hp, rfl⟩ := List.mem_map.mp hb
        obtain ⟨x, hx⟩ := way1 ok (wk.way p hp).2
        rw [hx] at ht
        simp at ht
  have x68 := x7.trans x8
  have kf8 := Mn.mono (M := MB b c) x8 kf7
  have k48 := Mn.mono (M := MB b c) x8 k47
  have i8 := x8.inv i7
  have ht8 := tabs_up x68 ht6
  have hr5 : Room 5 (DX P w K mg base N50 "law" (topS 50) f cdv A outer s H E).A := hr.mono (by decide : 5 ≤ 17)
  refine s_when (M := MB b c) (t := false) (JT.is (jt_and (t := !decide (F.G = [])) (u := false) (JT.is (jt_cmp ok_isntD (j_var 4 rfl k48) j_non) (by rw [isNd_gk])) fun q => ?_) (by rw [Bool.and_false])) (fun q => absurd q Bool.false_ne_true) fun _ H9 x9 => ?_
  · have hG : F.G ≠ [] := of_decide_eq_false (nb_t q)
    have hd : F.dGk = F.dKt := by unfold Fab.dGk; rw [if_neg hG]
    rw [hd] at k48
    have k48 : kD (.tuple (F.G.map fun c => dPl (c, F.gd c))) H8 v4 := k48
    have ws : WKS F 1 (sortP F.kp) := WKS.of (kp_wk hG)
    have hGl := G_len ok
    refine JT.is (jt_cmp (Ka := kB true) (Kb := kB true) ok_notB (j_def (⟨F, 1, sortP F.kp⟩ : WkI) fK hr5 ⟨ok, ws⟩ ht8 (ja_cons (j_var 2 rfl kf8) (ja_cons (K := kI ((1 : Nat) : Int)) j_int (ja_cons (K := kD (dPrs (sortP F.kp))) (j_tupL (ds := (sortD dPr F.kp).map dPr) B (JL.k (j_callBL (ck_sortL (bs := F.kp) (enc := dPr) (alike_prs _) (sortable_prs _) (fun p _ => depth_pr p) (by have := hr.un; exact Nat.lt_of_le_of_lt (by omega) this)) (by rfl) B.sorted bt_sorted (ja_cons (JL.k (JL.is (j_lcT (bs := F.G) (enc := fun c => dPl (c, F.gd c)) (gg := fun c => dPr (F.gd c, [c])) rfl sc50.nd bk50_1 (fun s H C cl fp => pg_tup rfl (pgs_cons (pg_name (i := 12) sc50.nd rfl (Or.inl rfl)) (pgs_cons (pg_name (i := 10) sc50.nd rfl (Or.inl rfl)) pgs_nil))) (JI.x (ji_tup (j_var 4 rfl k48))) (by omega) (tg_pair (e1 := fun c : Nat => dI c) (e2 := fun c : Nat => dI (F.gd c)) fun v w => rfl) (fun H9 x σ2 x9 hx gd => ?_) i8) ?_) i8) ja_nil) (by decide) (by decide) rfl rfl) i8)) ja_nil)))) j_bl) rfl
    · obtain ⟨v, w, r1, r2, rfl⟩ := gd
      intro s0 H0 C cl fp
      exact j_tup2 (j_var 10 rfl (K := kI (F.gd x : Int)) r2) (j_tup1 (j_var 12 rfl (K := kI (x : Int)) r1))
    · unfold Fab.kp
      rw [List.map_map]
      rfl
  have kf9 := Mn.mono (M := MB b c) x9 kf8
  have k49 := Mn.mono (M := MB b c) x9 k48
  have i9 := x9.inv i8
  have ht9 := tabs_up x9 ht8
  have k39 := Mn.mono (M := MB b c) (x68.trans x9) k36
  refine s_asg (M := MB b c) 6 sc50.nd (K := kD F.dCrit) (j_def F fC hr ok ht9 (ja_cons (j_var 2 rfl kf9) ja_nil)) fun v6 H10 x10 k6 => ?_
  have kf10 := Mn.mono (M := MB b c) x10 kf9
  have k410 := Mn.mono (M := MB b c) x10 k49
  have k310 := Mn.mono (M := MB b c) x10 k39
  have i10 := x10.inv i9
  have ht10 := tabs_up x10 ht9
  cases e0 : F.kn 1000000 with
  | none =>
    have ed : F.dCrit = .none := by unfold Fab.dCrit; rw [e0]
    rw [ed] at k6
    have k1n : F.kn 1 = none := kn_mono ok (by omega) e0
    have hG : F.G = [] := hGk.mpr k1n
    obtain ⟨t, et⟩ := kn_srch e0
    refine s_when (M := MB b c) (t := true) (JT.is (jt_cmp ok_isD (j_var 6 rfl k6) j_non) rfl) (fun _ H11 x11 => ?_) fun q => absurd q.symm Bool.false_ne_true
    refine s_ret (M := MB b c) (K := kB true) (j_and (t := true) (u := true) (JK.is (j_cmp ok_eqS (j_item (i := 0) (ds := [.str (rsW (F.srch 1000000 7 [] [])), rsP (F.srch 1000000 7 [] [])]) (d := .str (rsW (F.srch 1000000 7 [] []))) rfl (JK.is (j_def (F, 1000000) fV (hr.mono (by decide : 15 ≤ 17)) ok (tabs_up x11 ht10) (ja_cons (j_var 2 rfl (Mn.mono x11 kf10)) (ja_cons (K := kI ((1000000 : Nat) : Int)) j_int ja_nil))) (dRs_eq _)) j_int) j_str) (by rw [et]; rfl)) fun _ => j_one (j_cmp (Ka := kNon false) (by
      have := ok_notN (M := MB b c) (X := DX P w K mg base N50 "law" (topS 50) f cdv A outer s H E) (Ka := kNon false) (b := false) fun H v h => h
      exact this) (JK.is' (j_def F fL hr5 ok (tabs_up x11 ht10) (ja_cons (j_var 3 rfl (Mn.mono x11 k310)) ja_nil)) (by rw [hG]; rfl)) j_non)) fun v H12 x12 k => ?_
    rw [kB_eq k]
    exact hq H12
  | some q0 =>
    have hne : F.kn 1000000 ≠ none := fun z => by rw [z] at e0; cases e0
    obtain ⟨h1, h1000, hc, hl⟩ := crit_ok ok hne
    have ed : F.dCrit = dI F.crit := by unfold Fab.dCrit; rw [e0]
    rw [ed] at k6
    generalize F.crit = cr at h1 h1000 hc hl k6
    have k6 : kI (cr : Int) H10 v6 := k6
    obtain ⟨qf, eqf⟩ : ∃ q, F.kn cr = some q := by
      cases e : F.kn cr with
      | none => exact absurd e hc
      | some q => exact ⟨q, rfl⟩
    have ws := kn_some ok eqf
    refine s_when (M := MB b c) (t := false) (JT.is (jt_cmp ok_isD (j_var 6 rfl k6) j_non) rfl) (fun q => absurd q Bool.false_ne_true) fun _ H11 x11 => ?_
    have kf11 := Mn.mono (M := MB b c) x11 kf10
    have k611 := Mn.mono (M := MB b c) x11 k6
    have ht11 := tabs_up x11 ht10
    refine s_asg (M := MB b c) 7 sc50.nd (K := kD (dPrs qf)) (JK.is (j_def (F, cr) fF (hr.mono (by decide : 16 ≤ 17)) ok ht11 (ja_cons (j_var 2 rfl kf11) (ja_cons (j_var 6 rfl k611) ja_nil))) (by show dKn (F.kn cr) = _; rw [eqf]; rfl)) fun v7 H12 x12 k7 => ?_
    have kf12 := Mn.mono (M := MB b c) x12 kf11
    have k612 := Mn.mono (M := MB b c) x12 k611
    have ht12 := tabs_up x12 ht11
    refine s_when (M := MB b c) (t := false) (JT.is (jt_or (JT.is (jt_cmp ok_isD (j_var 7 rfl k7) j_non) (b' := false) rfl) fun _ => jt_cmp (Ka := kB true) (Kb := kB true) ok_notB (j_def (⟨F, cr, qf⟩ : WkI) fK hr5 ⟨ok, ws⟩ ht12 (ja_cons (j_var 2 rfl kf12) (ja_cons (j_var 6 rfl k612) (ja_cons (j_var 7 rfl k7) ja_nil)))) j_bl) rfl) (fun q => absurd q Bool.false_ne_true) fun _ H13 x13 => ?_
    have kf13 := Mn.mono (M := MB b c) x13 kf12
    have k613 := Mn.mono (M := MB b c) x13 k612
    have k713 := Mn.mono (M := MB b c) x13 k7
    have ht13 := tabs_up x13 ht12
    have i13 := x13.inv (x12.inv (x11.inv i10))
    refine s_when (M := MB b c) (t := false) (JT.is (jt_cmp (Ka := kB true) (Kb := kB true) ok_notB (j_call (K := kB true) fK hr5 (by rfl) (ja_cons (j_var 2 rfl kf13) (ja_cons (K := kN fun L => cr ≤ L) (j_op (ok_addN (E := fun x => x = cr + 1) (E' := fun x => x < 999) fun i j hi hj => by omega) (JK.imp (j_op ok_add (j_var 6 rfl k613) j_int) fun H v k => ⟨cr + 1, rfl, by rw [show dI (cr + 1) = .int ((cr : Int) + 1) by unfold dI; congr 1]; exact k⟩) (j_draw fD (hr.mono (by decide : 2 ≤ 17)) i13 (j_var 1 rfl rfl) (j_N (n := 999) j_int) (fun m hm => by subst hm; exact ⟨by omega, by omega, fun d hd => hd⟩))) (ja_cons (j_var 7 rfl k713) ja_nil))) fun vs H2 Q y k q => ?_) j_bl) rfl) (fun q => absurd q Bool.false_ne_true) fun _ H14 x14 => ?_
    · obtain ⟨w0, w1, w2, rfl, q0, ⟨L, hL, q1⟩, q2⟩ := K68.k3 k
      exact ⟨⟨F, L, qf⟩, ⟨ok, ws.mono hL⟩, tabs_up y ht13, ⟨_, _, rfl, q0, _, _, rfl, q1, _, _, rfl, q2, rfl⟩, q.pure⟩
    have kf14 := Mn.mono (M := MB b c) x14 kf13
    have k614 := Mn.mono (M := MB b c) x14 k613
    have ht14 := tabs_up x14 ht13
    have k414 := Mn.mono (M := MB b c) (((x11.trans x12).trans x13).trans x14) k410
    by_cases hcr : cr = 1
    · subst hcr
      refine s_when (M := MB b c) (t := true) (JT.is (jt_cmp ok_eqI (j_var 6 rfl k614) j_int) rfl) (fun _ H15 x15 => ?_) fun q => absurd q.symm Bool.false_ne_true
      have hG : F.G ≠ [] := fun z => hc (hGk.mp z)
      refine s_ret (M := MB b c) (K := kB true) (JK.is (j_cmp ok_isntD (j_var 4 rfl (Mn.mono (M := MB b c) x15 k414)) j_non) (by rw [isNd_gk, decide_eq_false hG]; rfl)) fun v H16 x16 k => ?_
      rw [kB_eq k]
      exact hq H16
    · have hl : F.kn (cr - 1) = none := hl.resolve_left hcr
      obtain ⟨t, et⟩ := kn_srch hl
      have hG : F.G = [] := hGk.mpr (kn_mono ok (by omega) hl)
      refine s_when (M := MB b c) (t := false) (JT.is (jt_cmp ok_eqI (j_var 6 rfl k614) j_int) (decide_eq_false (by omega))) (fun q => absurd q Bool.false_ne_true) fun _ H15 x15 => ?_
      have kf15 := Mn.mono (M := MB b c) x15 kf14
      have k615 := Mn.mono (M := MB b c) x15 k614
      have k415 := Mn.mono (M := MB b c) x15 k414
      have ht15 := tabs_up x15 ht14
      have jm : ∀ {Hh : Hp} {pa pb pc : Pos} {kk : Nat} {σ : L2.St}, σ[6]? = some (some v6) → kI (cr : Int) Hh v6 → JK (MB b c) (DX P w K mg base N50 "law" (topS 50) f cdv A outer s H E) (.BinOp (.Name "_law_least" pa) .Sub (.Constant (.int 1) kk pb) pc) σ Hh (kI ((cr - 1 : Nat) : Int)) := fun h1 h2 => by
        rw [show ((cr - 1 : Nat) : Int) = (cr : Int) - 1 by omega]
        exact j_op ok_sub (j_var 6 h1 h2) j_int
      refine s_asgG (M := MB b c) (K := kD (dRs (F.srch (cr - 1) 7 [] []))) (pg_tup rfl (pgs_cons (pg_name (i := 8) sc50.nd rfl (Or.inl rfl)) (pgs_cons (pg_name (i := 9) sc50.nd rfl (Or.inl rfl)) pgs_nil))) (j_def (F, cr - 1) fV (hr.mono (by decide : 15 ≤ 17)) ok ht15 (ja_cons (j_var 2 rfl kf15) (ja_cons (jm rfl k615) ja_nil))) fun v H16 x16 k16 => ?_
      rw [et] at k16
      refine g_pair (d1 := .str "tree") (d2 := dTr t) k16 fun w1 w2 r1 r2 => ?_
      have h6 := ok.m6
      refine s_ret (M := MB b c) (K := kB true) (j_and (t := true) (u := true) (JK.is (j_cmp ok_isD (j_var 4 rfl (Mn.mono (M := MB b c) x16 k415)) j_non) (by rw [isNd_gk, decide_eq_true hG])) fun _ => j_and (t := true) (u := true) (JK.is (j_cmp ok_eqS (j_var 8 rfl (K := kD (.str "tree")) r1) j_str) rfl) fun _ => j_one (JK.is (j_cmp (Ka := kB true) (Kb := kB true) ok_isB (j_def ((⟨F, cr - 1, [], []⟩ : IoI), t) fS (hr.mono (by decide : 14 ≤ 17)) ⟨⟨ok, stt0 F, by show F.m + 1 ≤ 7 + 0; omega⟩, et⟩ (tabs_up x16 ht15) (ja_cons (j_var 2 rfl (Mn.mono x16 kf15)) (ja_cons (jm rfl (Mn.mono (M := MB b c) x16 k615)) (ja_cons (K := kD (dPrs [])) j_tup0 (ja_cons (K := kD (dNs [])) j_tup0 (ja_cons (K := kD (dTr t)) (j_var 9 rfl r2) ja_nil)))))) j_bl) rfl)) fun v H17 x17 k => ?_
      rw [kB_eq k]
      exact hq H17
end
end K68

set_option Elab.async false
set_option linter.all false
set_option maxRecDepth 100000
set_option maxHeartbeats 2000000
/-! K68, text E1 (printed by gen_end.py): what the top leaves, and from it every promise. -/
namespace K68
open PySem PySem.Spec L2 PySem.W
open PyProof.Rows hiding St
def defD (x : Str) (i : Nat) : He.DefD := ⟨(x, none), x, x, defArgs (topS i), defBody (topS i), defScope (topS i), [], []⟩
def fnD0 : List He.DefD := [defD "is_whole" 1, defD "placements" 2, defD "is_way" 4, defD "way_options" 5, defD "least_length" 6, defD "longer_behind" 7, defD "longer_ahead" 8, defD "ways_through" 9, defD "candidates" 10, defD "is_idle" 11, defD "all_options" 13, defD "held_by" 14, defD "idle_order" 15, defD "is_closed" 16, defD "open_channels" 17]
def fnD1 : List He.DefD := [defD "search" 18, defD "worm_verdict" 19, defD "is_order" 20, defD "is_search_tree" 21, defD "are_ways" 24, defD "is_worm_knot" 25, defD "find_worm_knot" 26, defD "critical_length" 27, defD "case_of" 29, defD "case_placements" 30, defD "case_options" 31, defD "away_goals" 32, defD "goal_within" 34, defD "staged" 35, defD "all_channels" 36]
def fnD2 : List He.DefD := [defD "knot_of" 37, defD "least_ranks" 38, defD "greatest_knot" 39, defD "_law_box" 41, defD "_law_load" 42, defD "_law_draw" 43, defD "_law_channels" 44, defD "_law_ring" 45, defD "_law_away" 46, defD "_law_thin" 47, defD "_law_drawn_table" 48, defD "_law_worm_fabric" 49, defD "law" 50]
def fnD : List He.DefD := fnD0 ++ (fnD1 ++ (fnD2))
def faD0 : List He.Fa := [.glo "is_whole", .glo "placements", .glo "is_way", .glo "way_options", .glo "least_length", .glo "longer_behind", .glo "longer_ahead", .glo "ways_through", .glo "candidates", .glo "is_idle", .glo "all_options", .glo "held_by", .glo "idle_order", .glo "is_closed", .glo "open_channels"]
def faD1 : List He.Fa := [.glo "search", .glo "worm_verdict", .glo "is_order", .glo "is_search_tree", .glo "are_ways", .glo "is_worm_knot", .glo "find_worm_knot", .glo "critical_length", .glo "case_of", .glo "case_placements", .glo "case_options", .glo "away_goals", .glo "goal_within", .glo "staged", .glo "all_channels"]
def faD2 : List He.Fa := [.glo "knot_of", .glo "least_ranks", .glo "greatest_knot", .glo "_law_box", .glo "_law_load", .glo "_law_draw", .glo "_law_channels", .glo "_law_ring", .glo "_law_away", .glo "_law_thin", .glo "_law_drawn_table", .glo "_law_worm_fabric", .glo "law"]
def faF : List He.Fa := [.int "MOST" 1000000, .free "len", .free "isinstance", .free "int", .free "bool", .free "tuple", .free "range", .free "all", .free "any", .free "set", .free "sum", .free "sorted", .free "list", .free "min", .free "max", .free "dict"]
def faD : List He.Fa := faF ++ (faD0 ++ (faD1 ++ (faD2)))
def tfD : List He.Defn := [("is_way", none), ("candidates", none), ("is_closed", none), ("are_ways", none), ("is_worm_knot", none), ("goal_within", none)]
theorem fun_of {K : PySem.W.Frag} {x : Str} {i : Nat} {f : Addr} {fd : FuncData} (F : FunD K x x (defArgs (topS i)) (defBody (topS i)) (defScope (topS i)) [] [] f fd) : Fun K x x (topS i) f fd := by
  obtain ⟨oc, od, dV, kV, doc, pm, an, cdv, ct, osl, e, lk, hcd, hD, _⟩ := F.ex
  rcases hD with ⟨_, rfl⟩ | ⟨z, _⟩
  · exact ⟨⟨oc, od, kV, doc, pm, an, cdv, ct, osl, e, lk, hcd⟩, F.kp⟩
  · exact absurd rfl z
theorem funT_of {K : PySem.W.Frag} {x : Str} {i : Nat} {fd : FuncData} (F : FunD K x x (defArgs (topS i)) (defBody (topS i)) (defScope (topS i)) [] [] (He.ga K x) fd) : FunT K x x (topS i) (He.ga K x) fd (He.cT K (x, none)).1 := by
  obtain ⟨oc, od, kV, doc, pm, an, cdv, ct, osl, e, lk, hcd⟩ := (fun_of F).ex
  obtain ⟨c, rfl⟩ := He.codeIn_ref hcd
  have ec : He.codeOf K (x, none) = c := He.codeOf_eq (p := (x, none)) lk (by rw [e] <;> rfl)
  have ec : (He.cT K (x, none)).1 = c := ec
  rw [ec]
  exact ⟨⟨oc, od, kV, doc, pm, an, ct, osl, e, lk, hcd⟩, F.kp⟩
theorem tab_of' {base : Heap} {mg : Str → Option Value} {c P : Addr} (T : LamX.TabB base mg c P) : GxR.TabB base mg c P := ⟨T.code, T.bm, T.gP⟩
section
variable {P : Program} {w : World} {K : PySem.W.Frag} {mg : Str → Option Value} {base : Heap} {h : Heap}
abbrev csD (K : PySem.W.Frag) : List (Addr × Addr) := tfD.map (He.cT K)
abbrev tbD (K : PySem.W.Frag) : List Addr := (csD K).map (·.2)
theorem hpt {K : PySem.W.Frag} (i : Nat) {p : He.Defn} (e : tfD[i]? = some p := by rfl) : (He.cT K p).2 ∈ tbD K := by
  refine List.mem_map.mpr ⟨_, List.mem_map.mpr ⟨p, List.mem_of_getElem? e, rfl⟩, rfl⟩
theorem ends (X : K.In h) (G : h.Ns mainGlobals mg) (c : He.SaysD faD fnD K) : ∃ fd : FuncData, (∀ (s : Shared) (v : Value), BindsTo s fd ⟨[v], []⟩ [("_law_script", v)]) ∧
    ∀ base : Heap, (∀ p ∈ csD K, LamX.TabB base mg p.1 p.2) → FnOk P w K mg base CX0 18 (He.ga K "law") fd ["_law_script"] (spLw K (tbD K)) := by
  obtain ⟨fdWhole, FWhole⟩ := c.def_ 0 (d := defD "is_whole" 1) rfl
  have gWhole : mg "is_whole" = some (.ref (He.ga K "is_whole")) := He.glo_ok X G (c.fact 16 (f := .glo "is_whole") rfl)
  obtain ⟨fdPl, FPl⟩ := c.def_ 1 (d := defD "placements" 2) rfl
  have gPl : mg "placements" = some (.ref (He.ga K "placements")) := He.glo_ok X G (c.fact 17 (f := .glo "placements") rfl)
  obtain ⟨fdIw, FIw⟩ := c.def_ 2 (d := defD "is_way" 4) rfl
  have gIw : mg "is_way" = some (.ref (He.ga K "is_way")) := He.glo_ok X G (c.fact 18 (f := .glo "is_way") rfl)
  obtain ⟨fdWo, FWo⟩ := c.def_ 3 (d := defD "way_options" 5) rfl
  have gWo : mg "way_options" = some (.ref (He.ga K "way_options")) := He.glo_ok X G (c.fact 19 (f := .glo "way_options") rfl)
  obtain ⟨fdLl, FLl⟩ := c.def_ 4 (d := defD "least_length" 6) rfl
  have gLl : mg "least_length" = some (.ref (He.ga K "least_length")) := He.glo_ok X G (c.fact 20 (f := .glo "least_length") rfl)
  obtain ⟨fdLb, FLb⟩ := c.def_ 5 (d := defD "longer_behind" 7) rfl
  have gLb : mg "longer_behind" = some (.ref (He.ga K "longer_behind")) := He.glo_ok X G (c.fact 21 (f := .glo "longer_behind") rfl)
  obtain ⟨fdLa, FLa⟩ := c.def_ 6 (d := defD "longer_ahead" 8) rfl
  have gLa : mg "longer_ahead" = some (.ref (He.ga K "longer_ahead")) := He.glo_ok X G (c.fact 22 (f := .glo "longer_ahead") rfl)
  obtain ⟨fdWt, FWt⟩ := c.def_ 7 (d := defD "ways_through" 9) rfl
  have gWt : mg "ways_through" = some (.ref (He.ga K "ways_through")) := He.glo_ok X G (c.fact 23 (f := .glo "ways_through") rfl)
  obtain ⟨fdCd, FCd⟩ := c.def_ 8 (d := defD "candidates" 10) rfl
  have gCd : mg "candidates" = some (.ref (He.ga K "candidates")) := He.glo_ok X G (c.fact 24 (f := .glo "candidates") rfl)
  obtain ⟨fdId, FId⟩ := c.def_ 9 (d := defD "is_idle" 11) rfl
  have gId : mg "is_idle" = some (.ref (He.ga K "is_idle")) := He.glo_ok X G (c.fact 25 (f := .glo "is_idle") rfl)
  obtain ⟨fdAo, FAo⟩ := c.def_ 10 (d := defD "all_options" 13) rfl
  have gAo : mg "all_options" = some (.ref (He.ga K "all_options")) := He.glo_ok X G (c.fact 26 (f := .glo "all_options") rfl)
  obtain ⟨fdHb, FHb⟩ := c.def_ 11 (d := defD "held_by" 14) rfl
  have gHb : mg "held_by" = some (.ref (He.ga K "held_by")) := He.glo_ok X G (c.fact 27 (f := .glo "held_by") rfl)
  obtain ⟨fdIo, FIo⟩ := c.def_ 12 (d := defD "idle_order" 15) rfl
  have gIo : mg "idle_order" = some (.ref (He.ga K "idle_order")) := He.glo_ok X G (c.fact 28 (f := .glo "idle_order") rfl)
  obtain ⟨fdIc, FIc⟩ := c.def_ 13 (d := defD "is_closed" 16) rfl
  have gIc : mg "is_closed" = some (.ref (He.ga K "is_closed")) := He.glo_ok X G (c.fact 29 (f := .glo "is_closed") rfl)
  obtain ⟨fdOc, FOc⟩ := c.def_ 14 (d := defD "open_channels" 17) rfl
  have gOc : mg "open_channels" = some (.ref (He.ga K "open_channels")) := He.glo_ok X G (c.fact 30 (f := .glo "open_channels") rfl)
  obtain ⟨fdSr, FSr⟩ := c.def_ 15 (d := defD "search" 18) rfl
  have gSr : mg "search" = some (.ref (He.ga K "search")) := He.glo_ok X G (c.fact 31 (f := .glo "search") rfl)
  obtain ⟨fdWv, FWv⟩ := c.def_ 16 (d := defD "worm_verdict" 19) rfl
  have gWv : mg "worm_verdict" = some (.ref (He.ga K "worm_verdict")) := He.glo_ok X G (c.fact 32 (f := .glo "worm_verdict") rfl)
  obtain ⟨fdOr, FOr⟩ := c.def_ 17 (d := defD "is_order" 20) rfl
  have gOr : mg "is_order" = some (.ref (He.ga K "is_order")) := He.glo_ok X G (c.fact 33 (f := .glo "is_order") rfl)
  obtain ⟨fdSt, FSt⟩ := c.def_ 18 (d := defD "is_search_tree" 21) rfl
  have gSt : mg "is_search_tree" = some (.ref (He.ga K "is_search_tree")) := He.glo_ok X G (c.fact 34 (f := .glo "is_search_tree") rfl)
  obtain ⟨fdAw, FAw⟩ := c.def_ 19 (d := defD "are_ways" 24) rfl
  have gAw : mg "are_ways" = some (.ref (He.ga K "are_ways")) := He.glo_ok X G (c.fact 35 (f := .glo "are_ways") rfl)
  obtain ⟨fdWk, FWk⟩ := c.def_ 20 (d := defD "is_worm_knot" 25) rfl
  have gWk : mg "is_worm_knot" = some (.ref (He.ga K "is_worm_knot")) := He.glo_ok X G (c.fact 36 (f := .glo "is_worm_knot") rfl)
  obtain ⟨fdFk, FFk⟩ := c.def_ 21 (d := defD "find_worm_knot" 26) rfl
  have gFk : mg "find_worm_knot" = some (.ref (He.ga K "find_worm_knot")) := He.glo_ok X G (c.fact 37 (f := .glo "find_worm_knot") rfl)
  obtain ⟨fdCl, FCl⟩ := c.def_ 22 (d := defD "critical_length" 27) rfl
  have gCl : mg "critical_length" = some (.ref (He.ga K "critical_length")) := He.glo_ok X G (c.fact 38 (f := .glo "critical_length") rfl)
  obtain ⟨fdCo, FCo⟩ := c.def_ 23 (d := defD "case_of" 29) rfl
  have gCo : mg "case_of" = some (.ref (He.ga K "case_of")) := He.glo_ok X G (c.fact 39 (f := .glo "case_of") rfl)
  obtain ⟨fdCp, FCp⟩ := c.def_ 24 (d := defD "case_placements" 30) rfl
  have gCp : mg "case_placements" = some (.ref (He.ga K "case_placements")) := He.glo_ok X G (c.fact 40 (f := .glo "case_placements") rfl)
  obtain ⟨fdCz, FCz⟩ := c.def_ 25 (d := defD "case_options" 31) rfl
  have gCz : mg "case_options" = some (.ref (He.ga K "case_options")) := He.glo_ok X G (c.fact 41 (f := .glo "case_options") rfl)
  obtain ⟨fdAg, FAg⟩ := c.def_ 26 (d := defD "away_goals" 32) rfl
  have gAg : mg "away_goals" = some (.ref (He.ga K "away_goals")) := He.glo_ok X G (c.fact 42 (f := .glo "away_goals") rfl)
  obtain ⟨fdGw, FGw⟩ := c.def_ 27 (d := defD "goal_within" 34) rfl
  have gGw : mg "goal_within" = some (.ref (He.ga K "goal_within")) := He.glo_ok X G (c.fact 43 (f := .glo "goal_within") rfl)
  obtain ⟨fdSg, FSg⟩ := c.def_ 28 (d := defD "staged" 35) rfl
  have gSg : mg "staged" = some (.ref (He.ga K "staged")) := He.glo_ok X G (c.fact 44 (f := .glo "staged") rfl)
  obtain ⟨fdAc, FAc⟩ := c.def_ 29 (d := defD "all_channels" 36) rfl
  have gAc : mg "all_channels" = some (.ref (He.ga K "all_channels")) := He.glo_ok X G (c.fact 45 (f := .glo "all_channels") rfl)
  obtain ⟨fdKo, FKo⟩ := c.def_ 30 (d := defD "knot_of" 37) rfl
  have gKo : mg "knot_of" = some (.ref (He.ga K "knot_of")) := He.glo_ok X G (c.fact 46 (f := .glo "knot_of") rfl)
  obtain ⟨fdLr, FLr⟩ := c.def_ 31 (d := defD "least_ranks" 38) rfl
  have gLr : mg "least_ranks" = some (.ref (He.ga K "least_ranks")) := He.glo_ok X G (c.fact 47 (f := .glo "least_ranks") rfl)
  obtain ⟨fdGk, FGk⟩ := c.def_ 32 (d := defD "greatest_knot" 39) rfl
  have gGk : mg "greatest_knot" = some (.ref (He.ga K "greatest_knot")) := He.glo_ok X G (c.fact 48 (f := .glo "greatest_knot") rfl)
  obtain ⟨fdBx, FBx⟩ := c.def_ 33 (d := defD "_law_box" 41) rfl
  have gBx : mg "_law_box" = some (.ref (He.ga K "_law_box")) := He.glo_ok X G (c.fact 49 (f := .glo "_law_box") rfl)
  obtain ⟨fdLd, FLd⟩ := c.def_ 34 (d := defD "_law_load" 42) rfl
  have gLd : mg "_law_load" = some (.ref (He.ga K "_law_load")) := He.glo_ok X G (c.fact 50 (f := .glo "_law_load") rfl)
  obtain ⟨fdDr, FDr⟩ := c.def_ 35 (d := defD "_law_draw" 43) rfl
  have gDr : mg "_law_draw" = some (.ref (He.ga K "_law_draw")) := He.glo_ok X G (c.fact 51 (f := .glo "_law_draw") rfl)
  obtain ⟨fdCh, FCh⟩ := c.def_ 36 (d := defD "_law_channels" 44) rfl
  have gCh : mg "_law_channels" = some (.ref (He.ga K "_law_channels")) := He.glo_ok X G (c.fact 52 (f := .glo "_law_channels") rfl)
  obtain ⟨fdRi, FRi⟩ := c.def_ 37 (d := defD "_law_ring" 45) rfl
  have gRi : mg "_law_ring" = some (.ref (He.ga K "_law_ring")) := He.glo_ok X G (c.fact 53 (f := .glo "_law_ring") rfl)
  obtain ⟨fdAy, FAy⟩ := c.def_ 38 (d := defD "_law_away" 46) rfl
  have gAy : mg "_law_away" = some (.ref (He.ga K "_law_away")) := He.glo_ok X G (c.fact 54 (f := .glo "_law_away") rfl)
  obtain ⟨fdTh, FTh⟩ := c.def_ 39 (d := defD "_law_thin" 47) rfl
  have gTh : mg "_law_thin" = some (.ref (He.ga K "_law_thin")) := He.glo_ok X G (c.fact 55 (f := .glo "_law_thin") rfl)
  obtain ⟨fdDt, FDt⟩ := c.def_ 40 (d := defD "_law_drawn_table" 48) rfl
  have gDt : mg "_law_drawn_table" = some (.ref (He.ga K "_law_drawn_table")) := He.glo_ok X G (c.fact 56 (f := .glo "_law_drawn_table") rfl)
  obtain ⟨fdWf, FWf⟩ := c.def_ 41 (d := defD "_law_worm_fabric" 49) rfl
  have gWf : mg "_law_worm_fabric" = some (.ref (He.ga K "_law_worm_fabric")) := He.glo_ok X G (c.fact 57 (f := .glo "_law_worm_fabric") rfl)
  obtain ⟨fdLw, FLw⟩ := c.def_ 42 (d := defD "law" 50) rfl
  have gLw : mg "law" = some (.ref (He.ga K "law")) := He.glo_ok X G (c.fact 58 (f := .glo "law") rfl)
  have z0 : mg "len" = none := He.free_ok X G (c.fact 1 (f := .free "len") rfl)
  have z1 : mg "isinstance" = none := He.free_ok X G (c.fact 2 (f := .free "isinstance") rfl)
  have z2 : mg "int" = none := He.free_ok X G (c.fact 3 (f := .free "int") rfl)
  have z3 : mg "bool" = none := He.free_ok X G (c.fact 4 (f := .free "bool") rfl)
  have z4 : mg "tuple" = none := He.free_ok X G (c.fact 5 (f := .free "tuple") rfl)
  have z5 : mg "range" = none := He.free_ok X G (c.fact 6 (f := .free "range") rfl)
  have z6 : mg "all" = none := He.free_ok X G (c.fact 7 (f := .free "all") rfl)
  have z7 : mg "any" = none := He.free_ok X G (c.fact 8 (f := .free "any") rfl)
  have z8 : mg "set" = none := He.free_ok X G (c.fact 9 (f := .free "set") rfl)
  have z9 : mg "sum" = none := He.free_ok X G (c.fact 10 (f := .free "sum") rfl)
  have z10 : mg "sorted" = none := He.free_ok X G (c.fact 11 (f := .free "sorted") rfl)
  have z11 : mg "list" = none := He.free_ok X G (c.fact 12 (f := .free "list") rfl)
  have z12 : mg "min" = none := He.free_ok X G (c.fact 13 (f := .free "min") rfl)
  have z13 : mg "max" = none := He.free_ok X G (c.fact 14 (f := .free "max") rfl)
  have z14 : mg "dict" = none := He.free_ok X G (c.fact 15 (f := .free "dict") rfl)
  obtain ⟨tM, gM⟩ := He.int_ok X G (c.fact 0 (f := .int "MOST" 1000000) rfl)
  have B : Blt mg := ⟨z0, z1, z2, z3, z4, z5, z6, z7, z8, z9, z10, z11, z12, z13, z14⟩
  refine ⟨fdLw, fun s v => FunD.bindsA (ps := ["_law_script"]) FLw (fun _ _ _ _ _ _ us hl => match us, hl with | [_], _ => rfl) s [v] rfl, fun base hT => ?_⟩
  have TIw := tab_of' (hT (He.cT K ("is_way", none)) (List.mem_map.mpr ⟨("is_way", none), List.mem_of_getElem? (i := 0) rfl, rfl⟩))
  have TCd := tab_of' (hT (He.cT K ("candidates", none)) (List.mem_map.mpr ⟨("candidates", none), List.mem_of_getElem? (i := 1) rfl, rfl⟩))
  have TIc := tab_of' (hT (He.cT K ("is_closed", none)) (List.mem_map.mpr ⟨("is_closed", none), List.mem_of_getElem? (i := 2) rfl, rfl⟩))
  have TAw := tab_of' (hT (He.cT K ("are_ways", none)) (List.mem_map.mpr ⟨("are_ways", none), List.mem_of_getElem? (i := 3) rfl, rfl⟩))
  have TWk := tab_of' (hT (He.cT K ("is_worm_knot", none)) (List.mem_map.mpr ⟨("is_worm_knot", none), List.mem_of_getElem? (i := 4) rfl, rfl⟩))
  have TGw := tab_of' (hT (He.cT K ("goal_within", none)) (List.mem_map.mpr ⟨("goal_within", none), List.mem_of_getElem? (i := 5) rfl, rfl⟩))
  have fWhole := fnWhole (P := P) (w := w) (base := base) B (fun_of FWhole) gWhole
  have fPl := fnPl (P := P) (w := w) (base := base) B (fun_of FPl) gPl
  have fIw := fnIw (P := P) (w := w) (base := base) (tbs := tbD K) B (funT_of FIw) gIw TIw (hpt 0) fWhole
  have fWo := fnWo (P := P) (w := w) (base := base) (fun_of FWo) gWo
  have fLl := fnLl (P := P) (w := w) (base := base) B (fun_of FLl) gLl
  have fLb := fnLb (P := P) (w := w) (base := base) B (fun_of FLb) gLb fLl fWo
  have fLa := fnLa (P := P) (w := w) (base := base) B (fun_of FLa) gLa fLl
  have fWt := fnWt (P := P) (w := w) (base := base) B (fun_of FWt) gWt fLb fLa
  have fCd := fnCd (P := P) (w := w) (base := base) (tbs := tbD K) B (funT_of FCd) gCd TCd (hpt 1) fWt fWo
  have fId := fnId (P := P) (w := w) (base := base) (tbs := tbD K) B (fun_of FId) gId fCd
  have fAo := fnAo (P := P) (w := w) (base := base) B (fun_of FAo) gAo fWo
  have fHb := fnHb (P := P) (w := w) (base := base) B (fun_of FHb) gHb
  have fIo := fnIo (P := P) (w := w) (base := base) (tbs := tbD K) B (fun_of FIo) gIo fId fHb
  have fIc := fnIc (P := P) (w := w) (base := base) (tbs := tbD K) B (funT_of FIc) gIc TIc (hpt 2) fAo
  have fOc := fnOc (P := P) (w := w) (base := base) B (fun_of FOc) gOc fAo fHb
  have fSr0 := fnSr0 (P := P) (w := w) (base := base) (tbs := tbD K) (fun_of FSr) gSr
  have fSr1 := fnSr1 (P := P) (w := w) (base := base) (tbs := tbD K) B (fun_of FSr) gSr (k := 0) fSr0 fIo fIc fOc fCd
  have fSr2 := fnSr1 (P := P) (w := w) (base := base) (tbs := tbD K) B (fun_of FSr) gSr (k := 1) fSr1 fIo fIc fOc fCd
  have fSr3 := fnSr1 (P := P) (w := w) (base := base) (tbs := tbD K) B (fun_of FSr) gSr (k := 2) fSr2 fIo fIc fOc fCd
  have fSr4 := fnSr1 (P := P) (w := w) (base := base) (tbs := tbD K) B (fun_of FSr) gSr (k := 3) fSr3 fIo fIc fOc fCd
  have fSr5 := fnSr1 (P := P) (w := w) (base := base) (tbs := tbD K) B (fun_of FSr) gSr (k := 4) fSr4 fIo fIc fOc fCd
  have fSr6 := fnSr1 (P := P) (w := w) (base := base) (tbs := tbD K) B (fun_of FSr) gSr (k := 5) fSr5 fIo fIc fOc fCd
  have fSr7 := fnSr1 (P := P) (w := w) (base := base) (tbs := tbD K) B (fun_of FSr) gSr (k := 6) fSr6 fIo fIc fOc fCd
  have fSr := fSr7
  have fWv := fnWv (P := P) (w := w) (base := base) (tbs := tbD K) (fun_of FWv) gWv fSr
  have fOr := fnOr (P := P) (w := w) (base := base) (tbs := tbD K) B (fun_of FOr) gOr fId fHb
  have fSt0 := fnSt0 (P := P) (w := w) (base := base) (tbs := tbD K) (fun_of FSt) gSt
  have fSt1 := fnSt1 (P := P) (w := w) (base := base) (tbs := tbD K) B (fun_of FSt) gSt (k := 0) fSt0 fOr fIc fOc fCd
  have fSt2 := fnSt1 (P := P) (w := w) (base := base) (tbs := tbD K) B (fun_of FSt) gSt (k := 1) fSt1 fOr fIc fOc fCd
  have fSt3 := fnSt1 (P := P) (w := w) (base := base) (tbs := tbD K) B (fun_of FSt) gSt (k := 2) fSt2 fOr fIc fOc fCd
  have fSt4 := fnSt1 (P := P) (w := w) (base := base) (tbs := tbD K) B (fun_of FSt) gSt (k := 3) fSt3 fOr fIc fOc fCd
  have fSt5 := fnSt1 (P := P) (w := w) (base := base) (tbs := tbD K) B (fun_of FSt) gSt (k := 4) fSt4 fOr fIc fOc fCd
  have fSt6 := fnSt1 (P := P) (w := w) (base := base) (tbs := tbD K) B (fun_of FSt) gSt (k := 5) fSt5 fOr fIc fOc fCd
  have fSt7 := fnSt1 (P := P) (w := w) (base := base) (tbs := tbD K) B (fun_of FSt) gSt (k := 6) fSt6 fOr fIc fOc fCd
  have fSt := fSt7
  have fAw := fnAw (P := P) (w := w) (base := base) (tbs := tbD K) B (funT_of FAw) gAw TAw (hpt 3) fWhole fIw fLl
  have fWk := fnWk (P := P) (w := w) (base := base) (tbs := tbD K) B (funT_of FWk) gWk TWk (hpt 4) fAw fWo
  have fFk := fnFk (P := P) (w := w) (base := base) (tbs := tbD K) (fun_of FFk) gFk fWv
  have fCl := fnCl (P := P) (w := w) (base := base) (tbs := tbD K) B (fun_of FCl) gCl ⟨_, gM, ⟨tM, rfl⟩⟩ fFk fLl
  have fCo := fnCo (P := P) (w := w) (base := base) (fun_of FCo) gCo
  have fCp := fnCp (P := P) (w := w) (base := base) (fun_of FCp) gCp fPl
  have fCz := fnCz (P := P) (w := w) (base := base) (fun_of FCz) gCz
  have fAg := fnAg (P := P) (w := w) (base := base) B (fun_of FAg) gAg fCp fCz
  have fGw := fnGw (P := P) (w := w) (base := base) (tbs := tbD K) B (funT_of FGw) gGw TGw (hpt 5)
  have fSg := fnSg (P := P) (w := w) (base := base) (tbs := tbD K) B (fun_of FSg) gSg fGw
  have fAc := fnAc (P := P) (w := w) (base := base) B (fun_of FAc) gAc
  have fKo := fnKo (P := P) (w := w) (base := base) (tbs := tbD K) B (fun_of FKo) gKo fGw
  have fLr := fnLr (P := P) (w := w) (base := base) (tbs := tbD K) B (fun_of FLr) gLr fSg fAg fAc
  have fGk := fnGk (P := P) (w := w) (base := base) (tbs := tbD K) B (fun_of FGk) gGk fSg fAg fAc fKo
  have fBx := fnBx (P := P) (w := w) (base := base) B (fun_of FBx) gBx
  have fLd := fnLd (P := P) (w := w) (base := base) B (fun_of FLd) gLd
  have fDr := fnDr (P := P) (w := w) (base := base) B (fun_of FDr) gDr fLd
  have fCh := fnCh (P := P) (w := w) (base := base) B (fun_of FCh) gCh fDr
  have fRi := fnRi (P := P) (w := w) (base := base) B (fun_of FRi) gRi fDr fCh
  have fAy := fnAy (P := P) (w := w) (base := base) B (fun_of FAy) gAy
  have fTh := fnTh (P := P) (w := w) (base := base) B (fun_of FTh) gTh
  have fDt := fnDt (P := P) (w := w) (base := base) B (fun_of FDt) gDt fDr fAy
  have fWf := fnWf (P := P) (w := w) (base := base) B (fun_of FWf) gWf fDr fRi fCh fTh fDt
  exact fnLw (P := P) (w := w) (base := base) B (fun_of FLw) fBx fWf fCo fGk fFk fWk fCl fWv fLr fDr fSt
end
end K68

set_option Elab.async false
set_option linter.all false
set_option maxRecDepth 100000
set_option maxHeartbeats 0
/-! K68, text E2: the top's run. -/
namespace K68
open PySem PySem.Spec PyProof.Rows L2
abbrev R : PySem.W.OpenRow := PySem.W.OpenLaw.row PySem.Challenge.rw_calmfabric_k68_whole_lengths_of_worms
def lo1 : List PySem.Str := ["is_whole", "placements", "is_way", "way_options", "least_length", "longer_behind", "longer_ahead", "ways_through", "candidates", "is_idle", "all_options", "held_by", "idle_order", "is_closed", "open_channels", "search", "worm_verdict", "is_order", "is_search_tree", "MOST", "are_ways", "is_worm_knot"]
def lo2 : List PySem.Str := ["find_worm_knot", "critical_length", "case_of", "case_placements", "case_options", "away_goals", "goal_within", "staged", "all_channels", "knot_of", "least_ranks", "greatest_knot", "_law_box", "_law_load", "_law_draw", "_law_channels", "_law_ring", "_law_away", "_law_thin", "_law_drawn_table", "_law_worm_fabric"]
def lo : List PySem.Str := lo1 ++ lo2
abbrev hk : PySem.W.Hook := He.hookX 4 faD fnD [] tfD (fun _ => true)
def ob (s : PySem.W.SharedT) : He.AlX := He.obsX 4 faD fnD [] tfD (fun _ => true) (HandSHeadRun.getT s)
theorem ob_eq (s : PySem.W.SharedT) : ob s = hk.obs s.abs := He.obsX_eq (HandSHeadRun.getT_eq s)
theorem run (w : World) : HandSHeadRun.RunEq R (PySem.W.view R.prog [50]) hk ob 1500 lo w := by
  intro os
  kernel_rfl
end K68

set_option Elab.async false
set_option linter.all false
set_option maxRecDepth 100000
set_option maxHeartbeats 0
/-! K68, text E3: the law holds. -/
namespace K68
open PySem PySem.Spec PyProof.Rows L2
theorem at_ {w : World} {mg : Str → Option Value} {fa : Addr} {h : Heap} (Y : hk.says w h) (G : h.Ns mainGlobals mg) (hmg : mg ("law" : Str) = some (.ref fa)) :
    ∃ K : PySem.W.Frag, K.In h ∧ LamX.LawAtS PySem.Challenge.rw_calmfabric_k68_whole_lengths_of_worms w K L2.CX0 18 63 "_law_script" mg fa h := by
  obtain ⟨K, KX, c⟩ := Y
  have gL : mg "law" = some (.ref (He.ga K "law")) := He.glo_ok KX G (c.t.d.fact 58 (f := .glo "law") rfl)
  have e := hmg.symm.trans gL
  cases e
  obtain ⟨fd, hb, hF⟩ := ends (P := PySem.Challenge.rw_calmfabric_k68_whole_lengths_of_worms.prog) (w := w) KX G c.t.d
  refine ⟨K, KX, fd, csD K, spLw K (tbD K), fun p hp => ?_, fun p hp => ?_, fun p hp => ?_, hb, fun H a ns hl _ hT hS => ⟨ns, fun P hP => ?_, ⟨.ref a, [], rfl, ⟨a, rfl, hS⟩, rfl⟩, fun _ => rfl⟩, fun base _ _ hT => hF base hT⟩
  · obtain ⟨q, hq, rfl⟩ := List.mem_map.mp hp
    exact c.empty q hq
  · obtain ⟨q, hq, rfl⟩ := List.mem_map.mp hp
    exact c.out q hq
  · obtain ⟨q, hq, rfl⟩ := List.mem_map.mp hp
    exact PySem.W.codeHd_of_K KX (c.hd q hq)
  · obtain ⟨p, hp, rfl⟩ := List.mem_map.mp hP
    exact ⟨#[], hT p hp, trivial⟩
end K68
open PySem PySem.W PySem.Calls PyProof.Rows
theorem PySem.Challenge.cw_calmfabric_k68_whole_lengths_of_worms_holds : PySem.Challenge.rw_calmfabric_k68_whole_lengths_of_worms.Holds := by
  w_on; o_law
  refine HandSHeadRun.head_any (r := K68.R) (q := view K68.R.prog [50]) (H := K68.hk) (ob := K68.ob) (M := 1500) (loose := K68.lo) (d := HandSHeadRun.topDef K68.R.prog 50) (kwd := []) K68.ob_eq
    (by kernel_rfl) (fun s => by kernel_rfl) K68.run (by kernel_rfl) (by kernel_rfl) (by kernel_rfl) (by rfl) (by first | assumption | decide +kernel) (by decide +kernel) ⟨rfl, rfl, rfl, rfl, rfl, by decide +kernel⟩ ?hw ?hc
  case hw => w_witness2
  case hc =>
    refine LamX.walk_ofTsE (l := PySem.Challenge.rw_calmfabric_k68_whole_lengths_of_worms) (n := 63) (k := 18) (x := "_law_script") (CX := fun _ => L2.CX0) rfl (by decide) (by kernel_rfl) ⟨rfl, by decide, by decide⟩ ?F (fun _ _ _ _ _ z => z)
    intro w mg fa h Y G hmg0
    have hmg : mg ("law" : PySem.Str) = some (.ref fa) := by
      have e : (HandSHeadRun.topDef K68.R.prog 50).name = ("law" : PySem.Str) := by kernel_rfl
      rw [← e]
      exact hmg0
    exact K68.at_ Y G hmg
