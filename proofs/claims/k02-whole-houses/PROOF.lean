import PyProof.Rows.All
import Wide.All
import OpenK.AllK
import Wide.FinOn
import HandS.ForMost
import HandS.IsInst
import HandS.Zip
import HandS.Deep
import HandS.TupAny
import HandS.TupMul
import HandS.Walk
import HandS.Conv
import HandS.Style
import HandS.Strs
import HandS.Set
import HandS.SetFor
import KE.KSortedM
import HandS.Iter
import HandS.Text
import HandS.RaiseMore
import KE.KIndexOf
import HandS.More
import HandS.Codes
import PySem.Challenge.RW_turnhalls_k02_whole_houses
set_option Elab.async false
set_option linter.all false
set_option maxRecDepth 100000
set_option maxHeartbeats 4000000
namespace TH
open PySem L2
/-! ## data and heaps -/
mutual
/-- v stands for the datum d; lists within are tracked ones -/
inductive Dq (K : PySem.W.Frag) (H : Hp) : V → PyData → Prop
  | non : Dq K H .non .none
  | bl (b : Bool) : Dq K H (.bl b) (.bool b)
  | int (i : Int) : Dq K H (.int i) (.int i)
  | str (x : Str) : Dq K H (.str x) (.str x)
  | lst {a : Addr} {xs : List V} {ds : List PyData} : H a = some (.lst xs) → DqAll K H xs ds → Dq K H (.ref a) (.list ds)
  | tup {a : Addr} {xs : List V} {ds : List PyData} : SqT K H a xs → DqAll K H xs ds → Dq K H (.ref a) (.tuple ds)
inductive DqAll (K : PySem.W.Frag) (H : Hp) : List V → List PyData → Prop
  | nil : DqAll K H [] []
  | cons {v : V} {vs : List V} {d : PyData} {ds : List PyData} : Dq K H v d → DqAll K H vs ds → DqAll K H (v :: vs) (d :: ds)
end
mutual
theorem Dq.dp {K : PySem.W.Frag} {H : Hp} : ∀ {v : V} {d : PyData}, Dq K H v d → Dp K H v d
  | _, _, .non => .non
  | _, _, .bl b => .bl b
  | _, _, .int i => .int i
  | _, _, .str x => .str x
  | _, _, .lst hs ha => .lst (.of hs) ha.dp
  | _, _, .tup hs ha => .tup hs ha.dp
theorem DqAll.dp {K : PySem.W.Frag} {H : Hp} : ∀ {vs : List V} {ds : List PyData}, DqAll K H vs ds → DpAll K H vs ds
  | _, _, .nil => .nil
  | _, _, .cons h t => .cons h.dp t.dp
end

mutual
theorem dp_same {K : PySem.W.Frag} {H H' : Hp} (e : Same H H') : ∀ {v : V} {d : PyData}, Dq K H v d → Dq K H' v d
  | _, _, .non => .non
  | _, _, .bl b => .bl b
  | _, _, .int i => .int i
  | _, _, .str x => .str x
  | _, _, .lst hs ha => .lst (e _ _ hs) (dps_same e ha)
  | _, _, .tup hs ha => .tup (by
      rcases hs with (h | ⟨o, h⟩) | h
      · exact .inl (.inl (e _ _ h))
      · exact .inl (.inr ⟨o, e _ _ h⟩)
      · exact .inr h) (dps_same e ha)
theorem dps_same {K : PySem.W.Frag} {H H' : Hp} (e : Same H H') : ∀ {vs : List V} {ds : List PyData}, DqAll K H vs ds → DqAll K H' vs ds
  | _, _, .nil => .nil
  | _, _, .cons h t => .cons (dp_same e h) (dps_same e t)
end
/-- tuples and what is locked stay -/
def Tk (H H' : Hp) : Prop := (∀ a xs, H a = some (.tup xs) → H' a = some (.tup xs)) ∧ ∀ a o u, H a = some (.frz o u) → H' a = some (.frz o u)
theorem Tk.refl (H : Hp) : Tk H H := ⟨fun _ _ h => h, fun _ _ _ h => h⟩
theorem Same.tk {H H' : Hp} (e : Same H H') : Tk H H' := ⟨fun a _ h => e a _ h, fun a _ _ h => e a _ h⟩
theorem Tk.trans {H H1 H2 : Hp} (a : Tk H H1) (b : Tk H1 H2) : Tk H H2 := ⟨fun x _ h => b.1 x _ (a.1 x _ h), fun x _ _ h => b.2 x _ _ (a.2 x _ _ h)⟩
mutual
/-- no list within -/
def noL : PyData → Bool
  | .none => true
  | .bool _ => true
  | .int _ => true
  | .str _ => true
  | .list _ => false
  | .tuple ds => noLs ds
  | .dict _ => false
def noLs : List PyData → Bool
  | [] => true
  | d :: ds => noL d && noLs ds
end
theorem noLs_iff : ∀ {ds : List PyData}, noLs ds = true ↔ ∀ d ∈ ds, noL d = true
  | [] => by simp [noLs]
  | d :: ds => by simp [noLs, noLs_iff (ds := ds)]
theorem sqt_tk {K : PySem.W.Frag} {H H' : Hp} {a : Addr} {xs : List V} (e : Tk H H') (h : SqT K H a xs) : SqT K H' a xs := by
  rcases h with (h | ⟨o, h⟩) | h
  · exact .inl (.inl (e.1 _ _ h))
  · exact .inl (.inr ⟨o, e.2 _ _ _ h⟩)
  · exact .inr h
mutual
theorem dp_tk {K : PySem.W.Frag} {H H' : Hp} (e : Tk H H') : ∀ {v : V} {d : PyData}, Dq K H v d → noL d = true → Dq K H' v d
  | _, _, .non, _ => .non
  | _, _, .bl b, _ => .bl b
  | _, _, .int i, _ => .int i
  | _, _, .str x, _ => .str x
  | _, _, .lst _ _, n => by simp [noL] at n
  | _, _, .tup hs ha, n => .tup (sqt_tk e hs) (dps_tk e ha (by simpa [noL] using n))
theorem dps_tk {K : PySem.W.Frag} {H H' : Hp} (e : Tk H H') : ∀ {vs : List V} {ds : List PyData}, DqAll K H vs ds → noLs ds = true → DqAll K H' vs ds
  | _, _, .nil, _ => .nil
  | _, _, .cons h t, n => by
    simp only [noLs, Bool.and_eq_true] at n
    exact .cons (dp_tk e h n.1) (dps_tk e t n.2)
end
theorem DqAll.length {K : PySem.W.Frag} {H : Hp} : ∀ {vs : List V} {ds : List PyData}, DqAll K H vs ds → vs.length = ds.length
  | _, _, .nil => rfl
  | _, _, .cons _ t => by simp [DqAll.length t]
theorem DqAll.get {K : PySem.W.Frag} {H : Hp} : ∀ {vs : List V} {ds : List PyData} {i : Nat} {v : V}, DqAll K H vs ds → vs[i]? = some v → ∃ d, ds[i]? = some d ∧ Dq K H v d
  | _, _, _, _, .nil, e => by simp at e
  | _, _, 0, _, .cons h _, e => by simp at e; subst e; exact ⟨_, rfl, h⟩
  | _, _, i + 1, v, .cons _ t, e => by
    obtain ⟨d, h1, h2⟩ := DqAll.get (i := i) (v := v) t (by simpa using e)
    exact ⟨d, by simpa using h1, h2⟩
theorem DqAll.get' {K : PySem.W.Frag} {H : Hp} : ∀ {vs : List V} {ds : List PyData} {i : Nat} {d : PyData}, DqAll K H vs ds → ds[i]? = some d → ∃ v, vs[i]? = some v ∧ Dq K H v d
  | _, _, _, _, .nil, e => by simp at e
  | _, _, 0, _, .cons h _, e => by simp at e; subst e; exact ⟨_, rfl, h⟩
  | _, _, i + 1, v, .cons _ t, e => by
    obtain ⟨d, h1, h2⟩ := DqAll.get' (i := i) (d := v) t (by simpa using e)
    exact ⟨d, by simpa using h1, h2⟩
theorem DqAll.append {K : PySem.W.Frag} {H : Hp} : ∀ {vs ws : List V} {ds es : List PyData}, DqAll K H vs ds → DqAll K H ws es → DqAll K H (vs ++ ws) (ds ++ es)
  | _, _, _, _, .nil, s => s
  | _, _, _, _, .cons h t, s => .cons h (DqAll.append t s)
theorem DqAll.take {K : PySem.W.Frag} {H : Hp} : ∀ {vs : List V} {ds : List PyData} (n : Nat), DqAll K H vs ds → DqAll K H (vs.take n) (ds.take n)
  | _, _, 0, _ => .nil
  | _, _, _ + 1, .nil => .nil
  | _, _, n + 1, .cons h t => .cons h (DqAll.take n t)
theorem DqAll.drop {K : PySem.W.Frag} {H : Hp} : ∀ {vs : List V} {ds : List PyData} (n : Nat), DqAll K H vs ds → DqAll K H (vs.drop n) (ds.drop n)
  | _, _, 0, h => h
  | _, _, _ + 1, .nil => .nil
  | _, _, n + 1, .cons _ t => DqAll.drop n t
theorem DqAll.set {K : PySem.W.Frag} {H : Hp} {v : V} {d : PyData} (hd : Dq K H v d) : ∀ {vs : List V} {ds : List PyData} (n : Nat), DqAll K H vs ds → DqAll K H (vs.set n v) (ds.set n d)
  | _, _, _, .nil => .nil
  | _, _, 0, .cons _ t => .cons hd t
  | _, _, n + 1, .cons h t => .cons h (DqAll.set hd n t)
theorem DqAll.ints {K : PySem.W.Frag} {H : Hp} : ∀ {vs : List V} {ns : List Int}, DqAll K H vs (ns.map PyData.int) → vs = ns.map V.int
  | _, [], .nil => rfl
  | _, n :: ns, .cons h t => by cases h; rw [DqAll.ints t]; rfl
theorem DqAll.strs {K : PySem.W.Frag} {H : Hp} : ∀ {vs : List V} {ns : List Str}, DqAll K H vs (ns.map PyData.str) → vs = ns.map V.str
  | _, [], .nil => rfl
  | _, n :: ns, .cons h t => by cases h; rw [DqAll.strs t]; rfl
theorem DqAll.bls {K : PySem.W.Frag} {H : Hp} : ∀ {vs : List V} {ns : List Bool}, DqAll K H vs (ns.map PyData.bool) → vs = ns.map V.bl
  | _, [], .nil => rfl
  | _, n :: ns, .cons h t => by cases h; rw [DqAll.bls t]; rfl
theorem dps_ints {K : PySem.W.Frag} {H : Hp} : ∀ (ns : List Int), DqAll K H (ns.map V.int) (ns.map PyData.int)
  | [] => .nil
  | n :: ns => .cons (.int n) (dps_ints ns)
theorem dps_strs {K : PySem.W.Frag} {H : Hp} : ∀ (ns : List Str), DqAll K H (ns.map V.str) (ns.map PyData.str)
  | [] => .nil
  | n :: ns => .cons (.str n) (dps_strs ns)
theorem same_new {H : Hp} {p : Addr} {o : HO} (h : H p = none) : Same H (upd H p o) := fun a u e => by
  rw [upd_ne (ne_of_none e h)]
  exact e

/-! ## slots and expressions -/
structure EnvD (K : PySem.W.Frag) (H : Hp) (σ : L2.St) (r : List (Option PyData)) : Prop where
  len : σ.length = r.length
  get : ∀ (i : Nat) (d : PyData), r[i]? = some (some d) → ∃ v, σ[i]? = some (some v) ∧ Dq K H v d
theorem EnvD.same {K : PySem.W.Frag} {H H' : Hp} {σ : L2.St} {r : List (Option PyData)} (E : EnvD K H σ r) (e : Same H H') : EnvD K H' σ r := ⟨E.len, fun i d h => by
  obtain ⟨v, h1, h2⟩ := E.get i d h
  exact ⟨v, h1, dp_same e h2⟩⟩
theorem EnvD.set {K : PySem.W.Frag} {H : Hp} {σ : L2.St} {r : List (Option PyData)} {v : V} {d : PyData} (E : EnvD K H σ r) (i : Nat) (h : Dq K H v d) : EnvD K H (σ.set i (some v)) (r.set i (some d)) := by
  refine ⟨by simp [E.len], fun j e q => ?_⟩
  by_cases hj : i = j
  · subst hj
    by_cases hl : i < r.length
    · rw [List.getElem?_set_self hl] at q
      cases q
      exact ⟨v, List.getElem?_set_self (by rw [E.len]; exact hl), h⟩
    · rw [List.getElem?_eq_none (by simpa using hl)] at q
      cases q
  · rw [List.getElem?_set_ne hj] at q ⊢
    exact E.get j e q
/-- what is wanted behind a pure expression -/
abbrev QD (K : PySem.W.Frag) (H : Hp) (d : PyData) : VK := fun v H' => Same H H' ∧ Dq K H' v d
/-- e gives d, and changes nothing -/
structure EV (X : Cx) (e : Expr) (r : List (Option PyData)) (d : PyData) : Prop where
  run : ∀ (pins : List (Addr × Obj)) (s : Shared) (σ : L2.St) (H : Hp), Inv X pins σ H s → EnvD X.K H σ r → wpAny (model X.prog X.w) X.A (eval e X.env) (EP X pins σ (QD X.K H d)) X.xe s
/-- the reading that any expression has -/
def tE (X : Cx) (e : Expr) : TE := fun σ H Q => ∀ (pins : List (Addr × Obj)) (s : Shared), Inv X pins σ H s → wpAny (model X.prog X.w) X.A (eval e X.env) (EP X pins σ Q) X.xe s
theorem pe_any {X : Cx} {e : Expr} : PE X e (tE X e) := ⟨fun pins s σ H Q I h => h pins s I⟩
theorem EV.use {X : Cx} {e : Expr} {r : List (Option PyData)} {d : PyData} (h : EV X e r d) {σ : L2.St} {H : Hp} {Q : VK} (E : EnvD X.K H σ r) (q : ∀ v H', Same H H' → Dq X.K H' v d → Q v H') : tE X e σ H Q := fun pins s I =>
  thn (h.run pins s σ H I E) fun u s' ⟨v, H', I', rv, e1, e2⟩ => ⟨v, H', I', rv, q v H' e1 e2⟩
theorem EV.mk' {X : Cx} {e : Expr} {r : List (Option PyData)} {d : PyData} {t : TE} (p : PE X e t) (h : ∀ σ H, EnvD X.K H σ r → t σ H (QD X.K H d)) : EV X e r d :=
  ⟨fun pins s σ H I E => p.run pins s σ H _ I (h σ H E)⟩
theorem EV.cast {X : Cx} {e : Expr} {r : List (Option PyData)} {d d' : PyData} (h : EV X e r d) (q : d = d') : EV X e r d' := q ▸ h
/-- a new list -/
abbrev QL (K : PySem.W.Frag) (H : Hp) (ds : List PyData) : VK := fun v H' => ∃ p vs, v = .ref p ∧ H p = none ∧ Same H H' ∧ H' p = some (.lst vs) ∧ DqAll K H' vs ds
structure EVL (X : Cx) (e : Expr) (r : List (Option PyData)) (ds : List PyData) : Prop where
  run : ∀ (pins : List (Addr × Obj)) (s : Shared) (σ : L2.St) (H : Hp), Inv X pins σ H s → EnvD X.K H σ r → wpAny (model X.prog X.w) X.A (eval e X.env) (EP X pins σ (QL X.K H ds)) X.xe s
theorem EVL.mk' {X : Cx} {e : Expr} {r : List (Option PyData)} {d : List PyData} {t : TE} (p : PE X e t) (h : ∀ σ H, EnvD X.K H σ r → t σ H (QL X.K H d)) : EVL X e r d :=
  ⟨fun pins s σ H I E => p.run pins s σ H _ I (h σ H E)⟩
theorem EVL.use {X : Cx} {e : Expr} {r : List (Option PyData)} {ds : List PyData} (h : EVL X e r ds) {σ : L2.St} {H : Hp} {Q : VK} (E : EnvD X.K H σ r) (q : ∀ p vs H', H p = none → Same H H' → H' p = some (.lst vs) → DqAll X.K H' vs ds → Q (.ref p) H') : tE X e σ H Q := fun pins s I =>
  thn (h.run pins s σ H I E) fun u s' ⟨v, H', I', rv, p, vs, ev, e1, e2, e3, e4⟩ => ⟨v, H', I', rv, by subst ev; exact q p vs H' e1 e2 e3 e4⟩
theorem EVL.ev {X : Cx} {e : Expr} {r : List (Option PyData)} {ds : List PyData} (h : EVL X e r ds) : EV X e r (.list ds) :=
  ⟨fun pins s σ H I E => thn (h.run pins s σ H I E) fun u s' ⟨v, H', I', rv, p, vs, ev, e1, e2, e3, e4⟩ => ⟨v, H', I', rv, e2, by subst ev; exact .lst e3 e4⟩⟩
theorem EVL.cast {X : Cx} {e : Expr} {r : List (Option PyData)} {d d' : List PyData} (h : EVL X e r d) (q : d = d') : EVL X e r d' := q ▸ h
/-- arguments -/
def tA (X : Cx) (es : List Expr) : TA := fun σ H Q => ∀ (pos : Pos) (pins : List (Addr × Obj)) (s : Shared), Inv X pins σ H s → wpAny (model X.prog X.w) X.A (spliced (backTo pos (starEach es X.env))) (AP X pins σ Q) X.xe s
theorem pa_any {X : Cx} {es : List Expr} : PA X es (tA X es) := ⟨fun pos pins s σ H Q I h => h pos pins s I⟩
structure EVS (X : Cx) (es : List Expr) (r : List (Option PyData)) (ds : List PyData) : Prop where
  run : ∀ (pos : Pos) (pins : List (Addr × Obj)) (s : Shared) (σ : L2.St) (H : Hp), Inv X pins σ H s → EnvD X.K H σ r → wpAny (model X.prog X.w) X.A (spliced (backTo pos (starEach es X.env))) (AP X pins σ (fun vs H' => Same H H' ∧ DqAll X.K H' vs ds)) X.xe s
theorem EVS.use {X : Cx} {es : List Expr} {r : List (Option PyData)} {ds : List PyData} (h : EVS X es r ds) {σ : L2.St} {H : Hp} {Q : List V → Hp → Prop} (E : EnvD X.K H σ r) (q : ∀ vs H', Same H H' → DqAll X.K H' vs ds → Q vs H') : tA X es σ H Q := fun pos pins s I =>
  thn (h.run pos pins s σ H I E) fun u s' ⟨v, H', I', rv, e1, e2⟩ => ⟨v, H', I', rv, q v H' e1 e2⟩
theorem es_nil {X : Cx} {r : List (Option PyData)} : EVS X [] r [] :=
  ⟨fun pos pins s σ H I E => pa_nil.run pos pins s σ H _ I ⟨Same.refl H, .nil⟩⟩
theorem es_cons {X : Cx} {e : Expr} {es : List Expr} {r : List (Option PyData)} {d : PyData} {ds : List PyData} (h : EV X e r d) (hr : EVS X es r ds)
    (hs : starEach (e :: es) X.env = (false, eval e X.env) :: starEach es X.env := by rfl) : EVS X (e :: es) r (d :: ds) :=
  ⟨fun pos pins s σ H I E => (pa_cons pe_any pa_any hs).run pos pins s σ H _ I (h.use E fun v H1 e1 dv => hr.use (E.same e1) fun vs H2 e2 dvs => ⟨e1.trans e2, .cons (dp_same e2 dv) dvs⟩)⟩

/-! ## tests -/
structure EVT (X : Cx) (e : Expr) (r : List (Option PyData)) (b : Bool) : Prop where
  run : ∀ (pins : List (Addr × Obj)) (s : Shared) (σ : L2.St) (H : Hp), Inv X pins σ H s → EnvD X.K H σ r → wpAny (model X.prog X.w) X.A (isTrue e X.env (eval e X.env)) (TP X pins σ (fun c H' => c = b ∧ Same H H')) X.xe s
def tT (X : Cx) (e : Expr) : TT := fun σ H Q => ∀ (pins : List (Addr × Obj)) (s : Shared), Inv X pins σ H s → wpAny (model X.prog X.w) X.A (isTrue e X.env (eval e X.env)) (TP X pins σ Q) X.xe s
theorem pt_any {X : Cx} {e : Expr} : PT X e (tT X e) := ⟨fun pins s σ H Q I h => h pins s I⟩
theorem EVT.use {X : Cx} {e : Expr} {r : List (Option PyData)} {b : Bool} (h : EVT X e r b) {σ : L2.St} {H : Hp} {Q : Bool → Hp → Prop} (E : EnvD X.K H σ r) (q : ∀ H', Same H H' → Q b H') : tT X e σ H Q := fun pins s I =>
  thn (h.run pins s σ H I E) fun c s' ⟨H', I', e1, e2⟩ => ⟨H', I', by subst e1; exact q H' e2⟩
theorem EVT.mk' {X : Cx} {e : Expr} {r : List (Option PyData)} {b : Bool} {t : TT} (p : PT X e t) (h : ∀ σ H, EnvD X.K H σ r → t σ H (fun c H' => c = b ∧ Same H H')) : EVT X e r b :=
  ⟨fun pins s σ H I E => p.run pins s σ H _ I (h σ H E)⟩
theorem EVT.cast {X : Cx} {e : Expr} {r : List (Option PyData)} {d d' : Bool} (h : EVT X e r d) (q : d = d') : EVT X e r d' := q ▸ h
/-- and, or: whatever the whole is -/
structure EVW (X : Cx) (e : Expr) (r : List (Option PyData)) (b : Bool) : Prop where
  run : ∀ (wh : Sem Value) (pins : List (Addr × Obj)) (s : Shared) (σ : L2.St) (H : Hp), Inv X pins σ H s → EnvD X.K H σ r → wpAny (model X.prog X.w) X.A (isTrue e X.env wh) (TP X pins σ (fun c H' => c = b ∧ Same H H')) X.xe s
theorem EVW.t {X : Cx} {e : Expr} {r : List (Option PyData)} {b : Bool} (h : EVW X e r b) : EVT X e r b := ⟨h.run _⟩
def tW (X : Cx) (e : Expr) : TT := fun σ H Q => ∀ (wh : Sem Value) (pins : List (Addr × Obj)) (s : Shared), Inv X pins σ H s → wpAny (model X.prog X.w) X.A (isTrue e X.env wh) (TP X pins σ Q) X.xe s
theorem pw_any {X : Cx} {e : Expr} : PW X e (tW X e) := ⟨fun wh pins s σ H Q I h => h wh pins s I⟩
theorem EVW.use {X : Cx} {e : Expr} {r : List (Option PyData)} {b : Bool} (h : EVW X e r b) {σ : L2.St} {H : Hp} {Q : Bool → Hp → Prop} (E : EnvD X.K H σ r) (q : ∀ H', Same H H' → Q b H') : tW X e σ H Q := fun wh pins s I =>
  thn (h.run wh pins s σ H I E) fun c s' ⟨H', I', e1, e2⟩ => ⟨H', I', by subst e1; exact q H' e2⟩
theorem EVW.mk' {X : Cx} {e : Expr} {r : List (Option PyData)} {b : Bool} {t : TT} (p : PW X e t) (h : ∀ σ H, EnvD X.K H σ r → t σ H (fun c H' => c = b ∧ Same H H')) : EVW X e r b :=
  ⟨fun wh pins s σ H I E => p.run wh pins s σ H _ I (h σ H E)⟩
section
variable {X : Cx} {r : List (Option PyData)} {a b c : Expr} {rest : List Expr} {pos : Pos} {x y : Bool}
theorem ew_and1 (h : EVT X a r x) : EVW X (.BoolOp .And [a] pos) r x := .mk' (pw_and1 pt_any) fun σ H E => h.use E fun H' e => ⟨rfl, e⟩
theorem ew_or1 (h : EVT X a r x) : EVW X (.BoolOp .Or [a] pos) r x := .mk' (pw_or1 pt_any) fun σ H E => h.use E fun H' e => ⟨rfl, e⟩
theorem ew_and (h : EVT X a r x) (h2 : x = true → EVW X (.BoolOp .And (b :: rest) pos) r y) : EVW X (.BoolOp .And (a :: b :: rest) pos) r (x && y) := .mk' (pw_and pt_any pw_any) fun σ H E => h.use E fun H' e => by
  cases x with
  | true => exact iteT ((h2 rfl).use (E.same e) fun H2 e2 => ⟨rfl, e.trans e2⟩)
  | false => exact iteF ⟨rfl, e⟩
theorem ew_or (h : EVT X a r x) (h2 : x = false → EVW X (.BoolOp .Or (b :: rest) pos) r y) : EVW X (.BoolOp .Or (a :: b :: rest) pos) r (x || y) := .mk' (pw_or pt_any pw_any) fun σ H E => h.use E fun H' e => by
  cases x with
  | true => exact iteT ⟨rfl, e⟩
  | false => exact iteF ((h2 rfl).use (E.same e) fun H2 e2 => ⟨rfl, e.trans e2⟩)
theorem et_not (h : EVT X a r x) : EVT X (.UnaryOp .Not a pos) r (!x) := .mk' (pt_not pt_any) fun σ H E => h.use E fun H' e => ⟨rfl, e⟩
theorem et_val (h : EV X a r (.bool x)) (he : ∀ whole, isTrue a X.env whole = (do let v ← whole; standAt a.pos; holding [v] (truthy v)) := by intro _; rfl) : EVT X a r x := .mk' (pt_val pe_any he) fun σ H E => h.use E fun v H' e d => by
  cases d
  exact ⟨_, rfl, rfl, e⟩
theorem ev_one {op : BoolOp} {d : PyData} (h : EV X a r d) : EV X (.BoolOp op [a] pos) r d := .mk' (pe_one pe_any) fun σ H E => h.use E fun v H' e d => ⟨e, d⟩
theorem ev_and (h : EV X a r (.bool x)) (h2 : x = true → EV X (.BoolOp .And (b :: rest) pos) r (.bool y)) : EV X (.BoolOp .And (a :: b :: rest) pos) r (.bool (x && y)) := .mk' (pe_and pe_any pe_any) fun σ H E => h.use E fun v H' e d => by
  cases d
  refine ⟨_, rfl, ?_⟩
  cases x with
  | true => exact iteT ((h2 rfl).use (E.same e) fun v H2 e2 d => ⟨e.trans e2, d⟩)
  | false => exact iteF ⟨e, .bl _⟩
theorem ev_or (h : EV X a r (.bool x)) (h2 : x = false → EV X (.BoolOp .Or (b :: rest) pos) r (.bool y)) : EV X (.BoolOp .Or (a :: b :: rest) pos) r (.bool (x || y)) := .mk' (pe_or pe_any pe_any) fun σ H E => h.use E fun v H' e d => by
  cases d
  refine ⟨_, rfl, ?_⟩
  cases x with
  | true => exact iteT ⟨e, .bl _⟩
  | false => exact iteF ((h2 rfl).use (E.same e) fun v H2 e2 d => ⟨e.trans e2, d⟩)
theorem ev_not (h : EV X a r (.bool x)) : EV X (.UnaryOp .Not a pos) r (.bool (!x)) := .mk' (pe_not pe_any) fun σ H E => h.use E fun v H' e d => by
  cases d
  exact ⟨_, rfl, e, .bl _⟩
theorem ev_if {d : PyData} (h : EVT X c r x) (h1 : x = true → EV X a r d) (h2 : x = false → EV X b r d) : EV X (.IfExp c a b pos) r d := .mk' (pe_ifExp pt_any pe_any pe_any) fun σ H E => h.use E fun H' e => by
  cases x with
  | true => exact iteT ((h1 rfl).use (E.same e) fun v H2 e2 d => ⟨e.trans e2, d⟩)
  | false => exact iteF ((h2 rfl).use (E.same e) fun v H2 e2 d => ⟨e.trans e2, d⟩)
/-! ## names and constants -/
theorem ev_var {i : Nat} {n : Str} {d : PyData} (hN : X.N[i]? = some n) (hv : Vis X.env.scope n) (h : r[i]? = some (some d)) (hd : (n == ("__debug__" : Str)) = false := by decide) (hcd : (n == ("__classdict__" : Str)) = false := by decide) : EV X (.Name n pos) r d := .mk' (pe_var hN hv hd hcd) fun σ H E => by
  obtain ⟨v, h1, h2⟩ := E.get i d h
  exact ⟨v, h1, Same.refl H, h2⟩
theorem ev_int {i : Int} {j} : EV X (.Constant (.int i) j pos) r (.int i) := .mk' pe_int fun σ H E => ⟨Same.refl H, .int i⟩
theorem ev_str {z : Str} {j} : EV X (.Constant (.str z) j pos) r (.str z) := .mk' pe_str fun σ H E => ⟨Same.refl H, .str z⟩
theorem ev_bl {z : Bool} {j} : EV X (.Constant (.bool z) j pos) r (.bool z) := .mk' pe_bl fun σ H E => ⟨Same.refl H, .bl z⟩
theorem ev_non {j} : EV X (.Constant .none j pos) r .none := .mk' pe_non fun σ H E => ⟨Same.refl H, .non⟩
/-- a name of the module that holds data -/
theorem ev_glob {n : Str} {v : V} {u : Value} {d : PyData} (hg : Gl X n) (hm : X.mg n = some u) (rv : RelV v u) (h : ∀ H, Dq X.K H v d) (hd : (n == ("__debug__" : Str)) = false := by decide) : EV X (.Name n pos) r d :=
  .mk' (pe_glob hg hm rv hd) fun σ H E => ⟨Same.refl H, h H⟩
theorem ev_tup {es : List Expr} {k} {ds : List PyData} (h : EVS X es r ds) (hz : ds.length ≤ 1000) : EV X (.Tuple es k pos) r (.tuple ds) := .mk' (pe_tup pa_any) fun σ H E => h.use E fun vs H' e d =>
  ⟨Nat.le_trans (by rw [d.length]; exact hz) (by decide), fun p hp => ⟨e.trans (same_new hp), .tup (.of upd_same) (dps_same (same_new hp) d)⟩⟩
theorem el_lst {es : List Expr} {ds : List PyData} (h : EVS X es r ds) (hz : ds.length ≤ 1000) : EVL X (.List es pos) r ds := .mk' (pe_lst pa_any) fun σ H E => h.use E fun vs H' e d =>
  ⟨Nat.le_trans (by rw [d.length]; exact hz) (by decide), fun p hp => ⟨p, vs, rfl, e.free hp, e.trans (same_new hp), upd_same, dps_same (same_new hp) d⟩⟩
end
end TH

namespace TH
open PySem L2
/-- a two-place operation on values that stand for data -/
def OpD (X : Cx) (f : Value → Value → Sem Value) (d e z : PyData) : Prop :=
  ∀ (pins : List (Addr × Obj)) (s : Shared) (σ : L2.St) (H : Hp) (x y : V) (u v : Value), Inv X pins σ H s → RelV x u → RelV y v → Dq X.K H x d → Dq X.K H y e → wpAny (model X.prog X.w) X.A (f u v) (EP X pins σ (QD X.K H z)) X.xe s
def OpL (X : Cx) (f : Value → Value → Sem Value) (d e : PyData) (z : List PyData) : Prop :=
  ∀ (pins : List (Addr × Obj)) (s : Shared) (σ : L2.St) (H : Hp) (x y : V) (u v : Value), Inv X pins σ H s → RelV x u → RelV y v → Dq X.K H x d → Dq X.K H y e → wpAny (model X.prog X.w) X.A (f u v) (EP X pins σ (QL X.K H z)) X.xe s
theorem OpD.of {X : Cx} {f : Value → Value → Sem Value} {t : R2} {d e z : PyData} (ho : OpR X f t) (h : ∀ x y H, Dq X.K H x d → Dq X.K H y e → t x y H (QD X.K H z)) : OpD X f d e z :=
  fun pins s σ H x y u v I rx ry dx dy => ho pins s σ H x y u v _ I rx ry (h x y H dx dy)
theorem OpL.of {X : Cx} {f : Value → Value → Sem Value} {t : R2} {d e : PyData} {z : List PyData} (ho : OpR X f t) (h : ∀ x y H, Dq X.K H x d → Dq X.K H y e → t x y H (QL X.K H z)) : OpL X f d e z :=
  fun pins s σ H x y u v I rx ry dx dy => ho pins s σ H x y u v _ I rx ry (h x y H dx dy)
theorem OpD.opR {X : Cx} {f : Value → Value → Sem Value} {d e z : PyData} (h : OpD X f d e z) : OpR X f (fun x y H Q => Dq X.K H x d ∧ Dq X.K H y e ∧ ∀ v H', Same H H' → Dq X.K H' v z → Q v H') :=
  fun pins s σ H x y u v Q I rx ry ⟨dx, dy, q⟩ => thn (h pins s σ H x y u v I rx ry dx dy) fun w s' ⟨v', H', I', rv, e1, e2⟩ => ⟨v', H', I', rv, q v' H' e1 e2⟩
theorem OpL.opR {X : Cx} {f : Value → Value → Sem Value} {d e : PyData} {z : List PyData} (h : OpL X f d e z) : OpR X f (fun x y H Q => Dq X.K H x d ∧ Dq X.K H y e ∧ ∀ v H', QL X.K H z v H' → Q v H') :=
  fun pins s σ H x y u v Q I rx ry ⟨dx, dy, q⟩ => thn (h pins s σ H x y u v I rx ry dx dy) fun w s' ⟨v', H', I', rv, e1⟩ => ⟨v', H', I', rv, q v' H' e1⟩
theorem QL.back {K : PySem.W.Frag} {H H1 H' : Hp} {z : List PyData} {v : V} (e : Same H H1) (q : QL K H1 z v H') : QL K H z v H' := by
  obtain ⟨p, vs, ev, e1, e2, e3, e4⟩ := q
  exact ⟨p, vs, ev, e.free e1, e.trans e2, e3, e4⟩
section
variable {X : Cx} {r : List (Option PyData)} {a b c : Expr} {pos : Pos} {d e z : PyData}
theorem ev_bin {op : Operator} (ha : EV X a r d) (hb : EV X b r e) (ho : OpD X (binaryOp op) d e z) : EV X (.BinOp a op b pos) r z := .mk' (pe_op ho.opR pe_any pe_any) fun σ H E =>
  ha.use E fun x H1 e1 dx => hb.use (E.same e1) fun y H2 e2 dy => ⟨dp_same e2 dx, dy, fun v H3 e3 dv => ⟨(e1.trans e2).trans e3, dv⟩⟩
theorem el_bin {op : Operator} {z : List PyData} (ha : EV X a r d) (hb : EV X b r e) (ho : OpL X (binaryOp op) d e z) : EVL X (.BinOp a op b pos) r z := .mk' (pe_op ho.opR pe_any pe_any) fun σ H E =>
  ha.use E fun x H1 e1 dx => hb.use (E.same e1) fun y H2 e2 dy => ⟨dp_same e2 dx, dy, fun v H3 q => q.back (e1.trans e2)⟩
theorem ev_cmp {op : CmpOp} {k : Bool} (ha : EV X a r d) (hb : EV X b r e) (ho : OpD X (compareOp op) d e (.bool k)) (hm : behindInMarks op b = false) : EV X (.Compare a [op] [b] pos) r (.bool k) := .mk' (pe_cmpR ho.opR pe_any pe_any hm) fun σ H E =>
  ha.use E fun x H1 e1 dx => hb.use (E.same e1) fun y H2 e2 dy => ⟨dp_same e2 dx, dy, fun v H3 e3 dv => ⟨(e1.trans e2).trans e3, dv⟩⟩
theorem et_cmp {op : CmpOp} {k : Bool} (ha : EV X a r d) (hb : EV X b r e) (ho : OpD X (compareOp op) d e (.bool k)) (hm : behindInMarks op b = false) : EVT X (.Compare a [op] [b] pos) r k := .mk' (pt_cmpR ho.opR pe_any pe_any hm) fun σ H E =>
  ha.use E fun x H1 e1 dx => hb.use (E.same e1) fun y H2 e2 dy => ⟨dp_same e2 dx, dy, fun v H3 e3 dv => by
    cases dv
    exact ⟨_, rfl, rfl, (e1.trans e2).trans e3⟩⟩
/-- a op1 b op2 c -/
theorem ev_chain {op op' : CmpOp} {k k' : Bool} {g : PyData} (ha : EV X a r d) (hb : EV X b r e) (hc : k = true → EV X c r g) (ho : OpD X (compareOp op) d e (.bool k)) (ho' : k = true → OpD X (compareOp op') e g (.bool k'))
    (hm : lastMarks [op, op'] [b, c] = false := by with_unfolding_all rfl) : EV X (.Compare a [op, op'] [b, c] pos) r (.bool (k && k')) := by
  cases k with
  | true => exact .mk' (pe_chain ho.opR (ho' rfl).opR pe_any pe_any pe_any hm) fun σ H E =>
      ha.use E fun x H1 e1 dx => hb.use (E.same e1) fun y H2 e2 dy => ⟨dp_same e2 dx, dy, fun v H3 e3 dv => by
        cases dv
        refine ⟨_, rfl, iteT ((hc rfl).use (E.same ((e1.trans e2).trans e3)) fun w H4 e4 dw => ⟨dp_same (e3.trans e4) dy, dw, fun v' H5 e5 dv' => ⟨(((e1.trans e2).trans e3).trans e4).trans e5, dv'⟩⟩)⟩⟩
  | false => exact .mk' (pe_chain ho.opR (r' := fun _ _ _ _ => False) (fun _ _ _ _ _ _ _ _ _ _ _ _ h => h.elim) pe_any pe_any (tc := fun _ _ _ => False) ⟨fun _ _ _ _ _ _ h => h.elim⟩ hm) (by
      intro σ H E
      refine ha.use E fun x H1 e1 dx => hb.use (E.same e1) fun y H2 e2 dy => ⟨dp_same e2 dx, dy, fun v H3 e3 dv => ?_⟩
      cases dv
      exact ⟨_, rfl, iteF ⟨(e1.trans e2).trans e3, .bl _⟩⟩)
theorem et_chain {op op' : CmpOp} {k k' : Bool} {g : PyData} (ha : EV X a r d) (hb : EV X b r e) (hc : k = true → EV X c r g) (ho : OpD X (compareOp op) d e (.bool k)) (ho' : k = true → OpD X (compareOp op') e g (.bool k'))
    (hm : lastMarks [op, op'] [b, c] = false := by with_unfolding_all rfl) : EVT X (.Compare a [op, op'] [b, c] pos) r (k && k') := by
  cases k with
  | true => exact .mk' (pt_chain ho.opR (ho' rfl).opR pe_any pe_any pe_any hm) fun σ H E =>
      ha.use E fun x H1 e1 dx => hb.use (E.same e1) fun y H2 e2 dy => ⟨dp_same e2 dx, dy, fun v H3 e3 dv => by
        cases dv
        refine ⟨_, rfl, iteT ((hc rfl).use (E.same ((e1.trans e2).trans e3)) fun w H4 e4 dw => ⟨dp_same (e3.trans e4) dy, dw, fun v' H5 e5 dv' => by
          cases dv'
          exact ⟨_, rfl, by simp, (((e1.trans e2).trans e3).trans e4).trans e5⟩⟩)⟩⟩
  | false => exact .mk' (pt_chain ho.opR (r' := fun _ _ _ _ => False) (fun _ _ _ _ _ _ _ _ _ _ _ _ h => h.elim) pe_any pe_any (tc := fun _ _ _ => False) ⟨fun _ _ _ _ _ _ h => h.elim⟩ hm) (by
      intro σ H E
      refine ha.use E fun x H1 e1 dx => hb.use (E.same e1) fun y H2 e2 dy => ⟨dp_same e2 dx, dy, fun v H3 e3 dv => ?_⟩
      cases dv
      exact ⟨_, rfl, iteF ⟨_, rfl, by simp, (e1.trans e2).trans e3⟩⟩)
/-! ### ints -/
variable {i j : Int}
theorem od_add : OpD X (binaryOp .Add) (.int i) (.int j) (.int (i + j)) := .of op_add fun x y H dx dy => by cases dx; cases dy; exact ⟨_, _, rfl, rfl, Same.refl H, .int _⟩
theorem od_sub : OpD X (binaryOp .Sub) (.int i) (.int j) (.int (i - j)) := .of op_sub fun x y H dx dy => by cases dx; cases dy; exact ⟨_, _, rfl, rfl, Same.refl H, .int _⟩
theorem od_mul (h : CMul i j) : OpD X (binaryOp .Mult) (.int i) (.int j) (.int (i * j)) := .of op_mul fun x y H dx dy => by cases dx; cases dy; exact ⟨_, _, rfl, rfl, h, Same.refl H, .int _⟩
theorem od_fdiv (h : CDiv i j) : OpD X (binaryOp .FloorDiv) (.int i) (.int j) (.int (i / j)) := .of op_fdiv fun x y H dx dy => by cases dx; cases dy; exact ⟨_, _, rfl, rfl, h, Same.refl H, .int _⟩
theorem od_mod (h : 0 < j) : OpD X (binaryOp .Mod) (.int i) (.int j) (.int (i % j)) := .of op_mod fun x y H dx dy => by cases dx; cases dy; exact ⟨_, _, rfl, rfl, h, Same.refl H, .int _⟩
theorem od_pow (h : CPow i j) : OpD X (binaryOp .Pow) (.int i) (.int j) (.int (i ^ j.toNat)) := .of op_pow fun x y H dx dy => by cases dx; cases dy; exact ⟨_, _, rfl, rfl, h, Same.refl H, .int _⟩
theorem oc_lt : OpD X (compareOp .Lt) (.int i) (.int j) (.bool (decide (i < j))) := .of op_lt fun x y H dx dy => by cases dx; cases dy; exact ⟨_, _, rfl, rfl, Same.refl H, .bl _⟩
theorem oc_le : OpD X (compareOp .LtE) (.int i) (.int j) (.bool (decide (i ≤ j))) := .of op_le fun x y H dx dy => by cases dx; cases dy; exact ⟨_, _, rfl, rfl, Same.refl H, .bl _⟩
theorem oc_gt : OpD X (compareOp .Gt) (.int i) (.int j) (.bool (decide (j < i))) := .of op_gt fun x y H dx dy => by cases dx; cases dy; exact ⟨_, _, rfl, rfl, Same.refl H, .bl _⟩
theorem oc_ge : OpD X (compareOp .GtE) (.int i) (.int j) (.bool (decide (j ≤ i))) := .of op_ge fun x y H dx dy => by cases dx; cases dy; exact ⟨_, _, rfl, rfl, Same.refl H, .bl _⟩
theorem oc_eqI : OpD X (compareOp .Eq) (.int i) (.int j) (.bool (decide (i = j))) := .of op_eq fun x y H dx dy => by
  cases dx; cases dy
  refine ⟨rfl, Same.refl H, ?_⟩
  rw [show decide (V.int i = V.int j) = decide (i = j) by rw [dec_int, Bool.beq_eq_decide_eq]]
  exact .bl _
theorem oc_neI : OpD X (compareOp .NotEq) (.int i) (.int j) (.bool (!decide (i = j))) := .of op_ne fun x y H dx dy => by
  cases dx; cases dy
  refine ⟨rfl, Same.refl H, ?_⟩
  rw [show decide (V.int i = V.int j) = decide (i = j) by rw [dec_int, Bool.beq_eq_decide_eq]]
  exact .bl _
/-! ### data of any kind -/
theorem oc_eq {k : Nat} (hr : Room k X.A) (h1 : SeqAt.shaped d = true) (h2 : SeqAt.shaped e = true) : OpD X (compareOp .Eq) d e (.bool (PyData.eqv d e)) := .of (op_eqD hr.units) fun x y H dx dy => ⟨d, e, dx.dp, dy.dp, h1, h2, Same.refl H, .bl _⟩
theorem oc_ne {k : Nat} (hr : Room k X.A) (h1 : SeqAt.shaped d = true) (h2 : SeqAt.shaped e = true) : OpD X (compareOp .NotEq) d e (.bool (!PyData.eqv d e)) := .of (op_neD hr.units) fun x y H dx dy => ⟨d, e, dx.dp, dy.dp, h1, h2, Same.refl H, .bl _⟩
theorem room65 {k : Nat} {A : Around} (hr : Room k A) : A.units + 65 < cLine := by have := hr.un; omega
theorem oc_inL {k : Nat} {ds : List PyData} (hr : Room k X.A) (h1 : SeqAt.shaped d = true) (h2 : SeqAt.shaped (.list ds) = true) : OpD X (compareOp .In) d (.list ds) (.bool (ds.any fun y => PyData.eqv y d)) := .of (op_inD (room65 hr)) fun x y H dx dy => ⟨d, ds, dx.dp, dy.dp, h1, h2, Same.refl H, .bl _⟩
theorem oc_notInL {k : Nat} {ds : List PyData} (hr : Room k X.A) (h1 : SeqAt.shaped d = true) (h2 : SeqAt.shaped (.list ds) = true) : OpD X (compareOp .NotIn) d (.list ds) (.bool (!ds.any fun y => PyData.eqv y d)) := .of (op_notInD (room65 hr)) fun x y H dx dy => ⟨d, ds, dx.dp, dy.dp, h1, h2, Same.refl H, .bl _⟩
theorem oc_inT {k : Nat} {ds : List PyData} (hr : Room k X.A) (h1 : SeqAt.shaped d = true) (h2 : SeqAt.shaped (.tuple ds) = true) : OpD X (compareOp .In) d (.tuple ds) (.bool (ds.any fun y => PyData.eqv y d)) := fun pins s σ H x y u v I rx ry dx dy => by
  obtain ⟨as, r1⟩ := Dp.reads I d x u dx.dp rx
  obtain ⟨bs, r2⟩ := Dp.reads I (.tuple ds) y v dy.dp ry
  exact SeqAt.in_tuple_reads r2 r1 (SeqAt.canLay_of_shaped h2) (SeqAt.canLay_of_shaped h1) (PyProof.Rows.room_in_shaped h1 (room65 hr)) ⟨.bl _, H, I, rfl, Same.refl H, .bl _⟩
theorem oc_notInT {k : Nat} {ds : List PyData} (hr : Room k X.A) (h1 : SeqAt.shaped d = true) (h2 : SeqAt.shaped (.tuple ds) = true) : OpD X (compareOp .NotIn) d (.tuple ds) (.bool (!ds.any fun y => PyData.eqv y d)) := fun pins s σ H x y u v I rx ry dx dy => by
  obtain ⟨as, r1⟩ := Dp.reads I d x u dx.dp rx
  obtain ⟨bs, r2⟩ := Dp.reads I (.tuple ds) y v dy.dp ry
  exact SeqAt.notIn_tuple_reads r2 r1 (SeqAt.canLay_of_shaped h2) (SeqAt.canLay_of_shaped h1) (PyProof.Rows.room_in_shaped h1 (room65 hr)) ⟨.bl _, H, I, rfl, Same.refl H, .bl _⟩
def isNon : PyData → Bool
  | .none => true
  | _ => false
theorem dq_non {K : PySem.W.Frag} {H : Hp} {v : V} {d : PyData} (h : Dq K H v d) : decide (v = .non) = isNon d := by cases h <;> rfl
theorem oc_isN : OpD X (compareOp .Is) d .none (.bool (isNon d)) := .of op_isN fun x y H dx dy => by
  cases dy
  rw [← dq_non dx]
  exact ⟨rfl, Same.refl H, .bl _⟩
theorem oc_notN : OpD X (compareOp .IsNot) d .none (.bool (!isNon d)) := .of op_notN fun x y H dx dy => by
  cases dy
  rw [← dq_non dx]
  exact ⟨rfl, Same.refl H, .bl _⟩
/-! ### texts, tuples, lists -/
theorem od_catS {p q : Str} (h : p.length + q.length ≤ 100000) : OpD X (binaryOp .Add) (.str p) (.str q) (.str (p ++ q)) := .of op_add_str fun x y H dx dy => by
  cases dx; cases dy
  exact ⟨_, _, rfl, rfl, Nat.le_trans h (by decide), Same.refl H, .str _⟩
theorem od_catT {xs ys : List PyData} (h : xs.length + ys.length ≤ 100000) : OpD X (binaryOp .Add) (.tuple xs) (.tuple ys) (.tuple (xs ++ ys)) := .of op_catA fun x y H dx dy => by
  cases dx with
  | tup hs ha =>
    cases dy with
    | tup hs' ha' =>
      refine ⟨_, _, _, _, rfl, rfl, hs, hs', Nat.le_trans (by rw [ha.length, ha'.length]; exact h) (by decide), fun e0 => ?_, fun _ e0 => ?_, fun _ _ p hp => ?_⟩
      · subst e0
        cases ha
        exact ⟨Same.refl H, .tup hs' ha'⟩
      · subst e0
        cases ha'
        rw [List.append_nil]
        exact ⟨Same.refl H, .tup hs ha⟩
      · exact ⟨same_new hp, .tup (.of upd_same) (dps_same (same_new hp) (ha.append ha'))⟩
theorem ol_cat {xs ys : List PyData} (h : xs.length + ys.length ≤ 100000) : OpL X (binaryOp .Add) (.list xs) (.list ys) (xs ++ ys) := .of op_cat fun x y H dx dy => by
  cases dx with
  | lst hs ha =>
    cases dy with
    | lst hs' ha' =>
      exact ⟨_, _, _, _, rfl, rfl, hs, hs', Nat.le_trans (by rw [ha.length, ha'.length]; exact h) (by decide), fun p hp => ⟨p, _, rfl, hp, same_new hp, upd_same, dps_same (same_new hp) (ha.append ha')⟩⟩
theorem ol_rep {xs : List PyData} (h1 : 0 ≤ j) (h2 : xs.length * j.toNat ≤ 100000) (h3 : j ≤ 100000) : OpL X (binaryOp .Mult) (.list xs) (.int j) ((List.replicate j.toNat xs).flatten) := .of op_rep fun x y H dx dy => by
  cases dx with
  | lst hs ha =>
    cases dy
    refine ⟨_, _, _, rfl, rfl, hs, by omega, by omega, Nat.le_trans (by rw [ha.length]; exact h2) (by decide), fun p hp => ⟨p, _, rfl, hp, same_new hp, upd_same, dps_same (same_new hp) ?_⟩⟩
    have q : ∀ n : Nat, DqAll X.K H (List.replicate n _).flatten (List.replicate n xs).flatten := fun n => by
      induction n with
      | zero => exact .nil
      | succ n ih =>
        rw [List.replicate_succ, List.replicate_succ, List.flatten_cons, List.flatten_cons]
        exact ha.append ih
    exact q _
/-! ### items and slices -/
def IxD (X : Cx) (d e z : PyData) : Prop := ∃ t : R2, IxR X t ∧ ∀ x y H, Dq X.K H x d → Dq X.K H y e → ∀ Q : VK, (∀ v H', Same H H' → Dq X.K H' v z → Q v H') → t x y H Q
theorem ev_ix (ha : EV X a r d) (hb : EV X b r e) (h : IxD X d e z) (hs : PlainIx b := by intro _ _; rfl) : EV X (.Subscript a b pos) r z := by
  obtain ⟨t, ht, h⟩ := h
  exact .mk' (pe_ix ht pe_any pe_any hs) fun σ H E => ha.use E fun x H1 e1 dx => hb.use (E.same e1) fun y H2 e2 dy => h x y H2 (dp_same e2 dx) dy _ fun v H3 e3 dv => ⟨(e1.trans e2).trans e3, dv⟩
theorem atI_dq {K : PySem.W.Frag} {H : Hp} {vs : List V} {ds : List PyData} (h : DqAll K H vs ds) (e : atI ds i = some z) : ∃ v, atI vs i = some v ∧ Dq K H v z := by
  unfold atI at e ⊢
  rw [h.length]
  cases q : ixN ds.length i with
  | none => rw [q] at e; cases e
  | some n =>
    rw [q] at e
    obtain ⟨v, h1, h2⟩ := h.get' (i := n) (d := z) e
    exact ⟨v, h1, h2⟩
theorem ix_T {ds : List PyData} (h : atI ds i = some z) : IxD X (.tuple ds) (.int i) z := ⟨_, ix_tup, fun x y H dx dy Q q => by
  cases dx with
  | tup hs ha =>
    cases dy
    obtain ⟨v, h1, h2⟩ := atI_dq ha h
    exact ⟨_, _, _, v, rfl, rfl, hs, h1, q v H (Same.refl H) h2⟩⟩
theorem ix_L {ds : List PyData} (h : atI ds i = some z) : IxD X (.list ds) (.int i) z := ⟨_, ix_list, fun x y H dx dy Q q => by
  cases dx with
  | lst hs ha =>
    cases dy
    obtain ⟨v, h1, h2⟩ := atI_dq ha h
    exact ⟨_, _, _, v, rfl, rfl, .of hs, h1, q v H (Same.refl H) h2⟩⟩
/-- the items of xs[lo:hi] -/
def cutD (xs : List PyData) (lo hi : Option Int) : List PyData := (xs.drop (HT.sIx xs.length 0 lo)).take (HT.sIx xs.length xs.length hi - HT.sIx xs.length 0 lo)
theorem cut_dq {K : PySem.W.Frag} {H : Hp} {vs : List V} {ds : List PyData} (h : DqAll K H vs ds) (lo hi : Option Int) : DqAll K H (cutV vs lo hi) (cutD ds lo hi) := by
  unfold cutV cutD
  rw [h.length]
  exact (h.drop _).take _
/-- an optional part of a slice -/
structure EVO (X : Cx) (e : Option Expr) (r : List (Option PyData)) (o : Option Int) : Prop where
  run : ∃ t : TO, PO X e t ∧ ∀ σ H, EnvD X.K H σ r → ∀ Q : Option Int → Hp → Prop, (∀ H', Same H H' → Q o H') → t σ H Q
theorem eo_none : EVO X none r none := ⟨_, po_none, fun σ H _ Q q => q H (Same.refl H)⟩
theorem eo_some (h : EV X a r (.int i)) : EVO X (some a) r (some i) := ⟨_, po_some pe_any, fun σ H E Q q => h.use E fun v H' e d => by
  cases d
  exact ⟨_, rfl, q H' e⟩⟩
theorem ev_slT {lo hi : Option Expr} {p2 : Pos} {l u : Option Int} {ds : List PyData} (ha : EV X a r (.tuple ds)) (hl : EVO X lo r l) (hh : EVO X hi r u) : EV X (.Subscript a (.Slice lo hi none p2) pos) r (.tuple (cutD ds l u)) := by
  obtain ⟨tl, pl, hl⟩ := hl.run
  obtain ⟨tu, pu, hh⟩ := hh.run
  refine .mk' (pe_slice sl_tupA pe_any pl pu) fun σ H E => ha.use E fun x H1 e1 dx => hl σ H1 (E.same e1) _ fun H2 e2 => hh σ H2 (E.same (e1.trans e2)) _ fun H3 e3 => ?_
  have dx' := dp_same (e2.trans e3) dx
  cases dx' with
  | tup hs hq =>
    refine ⟨_, _, rfl, hs, fun w => ⟨(e1.trans e2).trans e3, ?_⟩, fun _ p hp => ⟨((e1.trans e2).trans e3).trans (same_new hp), .tup (.of upd_same) (dps_same (same_new hp) (cut_dq hq l u))⟩⟩
    have q : cutD ds l u = ds := by
      unfold cutD
      rw [← hq.length, w.1, w.2, hq.length, List.drop_zero, Nat.sub_zero, List.take_length]
    rw [q]
    exact .tup hs hq
theorem el_slL {lo hi : Option Expr} {p2 : Pos} {l u : Option Int} {ds : List PyData} (ha : EV X a r (.list ds)) (hl : EVO X lo r l) (hh : EVO X hi r u) : EVL X (.Subscript a (.Slice lo hi none p2) pos) r (cutD ds l u) := by
  obtain ⟨tl, pl, hl⟩ := hl.run
  obtain ⟨tu, pu, hh⟩ := hh.run
  refine .mk' (pe_slice sl_list pe_any pl pu) fun σ H E => ha.use E fun x H1 e1 dx => hl σ H1 (E.same e1) _ fun H2 e2 => hh σ H2 (E.same (e1.trans e2)) _ fun H3 e3 => ?_
  have dx' := dp_same (e2.trans e3) dx
  cases dx' with
  | lst hs hq =>
    exact ⟨_, _, rfl, .of hs, fun p hp => ⟨p, _, rfl, ((e1.trans e2).trans e3).free hp, ((e1.trans e2).trans e3).trans (same_new hp), upd_same, dps_same (same_new hp) (cut_dq hq l u)⟩⟩
/-! ### calls of what is built in -/
def CaD (X : Cx) (f : Value) (ds : List PyData) (z : PyData) : Prop := ∃ t : List V → Hp → VK → Prop, CallR X f t ∧ ∀ xs H, DqAll X.K H xs ds → t xs H (QD X.K H z)
def CaL (X : Cx) (f : Value) (ds : List PyData) (z : List PyData) : Prop := ∃ t : List V → Hp → VK → Prop, CallR X f t ∧ ∀ xs H, DqAll X.K H xs ds → t xs H (QL X.K H z)
theorem CaD.callR {f : Value} {ds : List PyData} (h : CaD X f ds z) : CallR X f (fun xs H Q => DqAll X.K H xs ds ∧ ∀ v H', Same H H' → Dq X.K H' v z → Q v H') := by
  obtain ⟨t, ht, h⟩ := h
  exact fun pins s σ H xs us Q I r ⟨d, q⟩ => thn (ht pins s σ H xs us _ I r (h xs H d)) fun w s' ⟨v', H', I', rv, e1, e2⟩ => ⟨v', H', I', rv, q v' H' e1 e2⟩
theorem CaL.callR {f : Value} {ds z : List PyData} (h : CaL X f ds z) : CallR X f (fun xs H Q => DqAll X.K H xs ds ∧ ∀ v H', QL X.K H z v H' → Q v H') := by
  obtain ⟨t, ht, h⟩ := h
  exact fun pins s σ H xs us Q I r ⟨d, q⟩ => thn (ht pins s σ H xs us _ I r (h xs H d)) fun w s' ⟨v', H', I', rv, e1⟩ => ⟨v', H', I', rv, q v' H' e1⟩
variable {n : Str} {p : Pos} {es : List Expr} {ds : List PyData} {id T : String}
theorem ev_callB (hc : CaD X (.builtin id) ds z) (hg : Gl X n) (hm : X.mg n = none) (hv : bootBuiltins n = some (.builtin id)) (ha : EVS X (a :: es) r ds) (hn : n ≠ "__name__" := by decide) (hdb : (n == ("__debug__" : Str)) = false := by decide)
    (he : starEach (a :: es) X.env = (false, eval a X.env) :: starEach es X.env := by rfl) (hpl : (backTo pos (starEach es X.env)).any (·.1) = false := by rfl) : EV X (.Call (.Name n p) (a :: es) [] pos) r z :=
  .mk' (pe_callB hc.callR hg hm hv pa_any hn hdb he hpl) fun σ H E => ha.use E fun vs H1 e1 dv => ⟨dv, fun v H2 e2 d => ⟨e1.trans e2, d⟩⟩
theorem el_callB {z : List PyData} (hc : CaL X (.builtin id) ds z) (hg : Gl X n) (hm : X.mg n = none) (hv : bootBuiltins n = some (.builtin id)) (ha : EVS X (a :: es) r ds) (hn : n ≠ "__name__" := by decide) (hdb : (n == ("__debug__" : Str)) = false := by decide)
    (he : starEach (a :: es) X.env = (false, eval a X.env) :: starEach es X.env := by rfl) (hpl : (backTo pos (starEach es X.env)).any (·.1) = false := by rfl) : EVL X (.Call (.Name n p) (a :: es) [] pos) r z :=
  .mk' (pe_callB hc.callR hg hm hv pa_any hn hdb he hpl) fun σ H E => ha.use E fun vs H1 e1 dv => ⟨dv, fun v H2 q => q.back e1⟩
theorem ev_callTy (hc : CaD X (.type T) ds z) (hg : Gl X n) (hm : X.mg n = none) (hv : bootBuiltins n = some (.type T)) (ha : EVS X (a :: es) r ds) (hn : n ≠ "__name__" := by decide) (hdb : (n == ("__debug__" : Str)) = false := by decide)
    (he : starEach (a :: es) X.env = (false, eval a X.env) :: starEach es X.env := by rfl) (hpl : (backTo pos (starEach es X.env)).any (·.1) = false := by rfl) : EV X (.Call (.Name n p) (a :: es) [] pos) r z :=
  .mk' (pe_callTy hc.callR hg hm hv pa_any hn hdb he hpl) fun σ H E => ha.use E fun vs H1 e1 dv => ⟨dv, fun v H2 e2 d => ⟨e1.trans e2, d⟩⟩
theorem el_callTy {z : List PyData} (hc : CaL X (.type T) ds z) (hg : Gl X n) (hm : X.mg n = none) (hv : bootBuiltins n = some (.type T)) (ha : EVS X (a :: es) r ds) (hn : n ≠ "__name__" := by decide) (hdb : (n == ("__debug__" : Str)) = false := by decide)
    (he : starEach (a :: es) X.env = (false, eval a X.env) :: starEach es X.env := by rfl) (hpl : (backTo pos (starEach es X.env)).any (·.1) = false := by rfl) : EVL X (.Call (.Name n p) (a :: es) [] pos) r z :=
  .mk' (pe_callTy hc.callR hg hm hv pa_any hn hdb he hpl) fun σ H E => ha.use E fun vs H1 e1 dv => ⟨dv, fun v H2 q => q.back e1⟩
theorem dq1 {K : PySem.W.Frag} {H : Hp} {xs : List V} (h : DqAll K H xs [d]) : ∃ v, xs = [v] ∧ Dq K H v d := by
  cases h with
  | cons h t => cases t; exact ⟨_, rfl, h⟩
theorem dq2 {K : PySem.W.Frag} {H : Hp} {xs : List V} (h : DqAll K H xs [d, e]) : ∃ v w, xs = [v, w] ∧ Dq K H v d ∧ Dq K H w e := by
  cases h with
  | cons h t =>
    obtain ⟨w, rfl, hw⟩ := dq1 t
    exact ⟨_, _, rfl, h, hw⟩
theorem ca_lenT {xs : List PyData} : CaD X (.builtin "len") [.tuple xs] (.int xs.length) := ⟨_, call_len_seq, fun vs H h => by
  obtain ⟨v, rfl, hv⟩ := dq1 h
  cases hv with
  | tup hs ha => exact ⟨_, _, rfl, .inr hs, by rw [← ha.length]; exact ⟨Same.refl H, .int _⟩⟩⟩
theorem ca_lenL {xs : List PyData} : CaD X (.builtin "len") [.list xs] (.int xs.length) := ⟨_, call_len_seq, fun vs H h => by
  obtain ⟨v, rfl, hv⟩ := dq1 h
  cases hv with
  | lst hs ha => exact ⟨_, _, rfl, .inl (.of hs), by rw [← ha.length]; exact ⟨Same.refl H, .int _⟩⟩⟩
theorem ca_any {bs : List Bool} (hc : X.calm = true) : CaD X (.builtin "any") [.list (bs.map .bool)] (.bool (bs.any fun q => q)) := ⟨_, cr_any hc, fun vs H h => by
  obtain ⟨v, rfl, hv⟩ := dq1 h
  cases hv with
  | lst hs ha => exact ⟨_, bs, rfl, by rw [ha.bls] at hs; exact .of hs, Same.refl H, .bl _⟩⟩
theorem ca_all {bs : List Bool} (hc : X.calm = true) : CaD X (.builtin "all") [.list (bs.map .bool)] (.bool (bs.all fun q => q)) := ⟨_, cr_all hc, fun vs H h => by
  obtain ⟨v, rfl, hv⟩ := dq1 h
  cases hv with
  | lst hs ha => exact ⟨_, bs, rfl, by rw [ha.bls] at hs; exact .of hs, Same.refl H, .bl _⟩⟩
theorem ca_sumL {ns : List Int} (hc : X.calm = true) : CaD X (.builtin "sum") [.list (ns.map .int)] (.int ns.sum) := ⟨_, cr_sum hc, fun vs H h => by
  obtain ⟨v, rfl, hv⟩ := dq1 h
  cases hv with
  | lst hs ha => exact ⟨_, ns, rfl, by rw [ha.ints] at hs; exact .of hs, Same.refl H, .int _⟩⟩
theorem ca_abs : CaD X (.builtin "abs") [.int i] (.int (if i < 0 then -i else i)) := ⟨_, call_abs, fun vs H h => by
  obtain ⟨v, rfl, hv⟩ := dq1 h
  cases hv
  exact ⟨_, rfl, Same.refl H, .int _⟩⟩
theorem ca_tupleL {xs : List PyData} : CaD X (.type "tuple") [.list xs] (.tuple xs) := ⟨_, call_tuple_of, fun vs H h => by
  obtain ⟨v, rfl, hv⟩ := dq1 h
  cases hv with
  | lst hs ha => exact ⟨_, _, rfl, .inl ⟨.of hs, fun l hl => ⟨same_new hl, .tup (.of upd_same) (dps_same (same_new hl) ha)⟩⟩⟩⟩
theorem cl_listT {xs : List PyData} : CaL X (.type "list") [.tuple xs] xs := ⟨_, call_list_of, fun vs H h => by
  obtain ⟨v, rfl, hv⟩ := dq1 h
  cases hv with
  | tup hs ha => exact ⟨_, _, rfl, .inr hs, fun l hl => ⟨l, _, rfl, hl, same_new hl, upd_same, dps_same (same_new hl) ha⟩⟩⟩
theorem cl_listL {xs : List PyData} : CaL X (.type "list") [.list xs] xs := ⟨_, call_list_of, fun vs H h => by
  obtain ⟨v, rfl, hv⟩ := dq1 h
  cases hv with
  | lst hs ha => exact ⟨_, _, rfl, .inl (.of hs), fun l hl => ⟨l, _, rfl, hl, same_new hl, upd_same, dps_same (same_new hl) ha⟩⟩⟩
theorem ca_intI : CaD X (.type "int") [.int i] (.int i) := ⟨_, call_int1, fun vs H h => by
  obtain ⟨v, rfl, hv⟩ := dq1 h
  cases hv
  exact .inl ⟨_, rfl, Same.refl H, .int _⟩⟩
theorem ca_intB {k : Bool} : CaD X (.type "int") [.bool k] (.int (if k then 1 else 0)) := ⟨_, call_int1, fun vs H h => by
  obtain ⟨v, rfl, hv⟩ := dq1 h
  cases hv
  exact .inr ⟨_, rfl, Same.refl H, .int _⟩⟩
end
end TH

namespace TH
open PySem L2
/-! ## isinstance -/
def tyN : PyData → String
  | .none => "NoneType"
  | .bool _ => "bool"
  | .int _ => "int"
  | .str _ => "str"
  | .list _ => "list"
  | .tuple _ => "tuple"
  | .dict _ => "dict"
theorem dq_ty {K : PySem.W.Frag} {H : Hp} {v : V} {d : PyData} (h : Dq K H v d) : TyX K H v (.type (tyN d)) := by
  cases h with
  | non => exact .base .non
  | bl b => exact .base (.bl b)
  | int i => exact .base (.int i)
  | str x => exact .base (.str x)
  | lst hs _ => exact .base (.lst hs)
  | tup hs _ =>
    rcases hs with (h | ⟨o, h⟩) | ⟨o, its, n, h1, h2, _⟩
    · exact .base (.tup h)
    · exact .fTuple h
    · exact .kTuple h1 h2
section
variable {X : Cx} {r : List (Option PyData)} {a : Expr} {p p2 pos : Pos} {d : PyData} {n : Str}
theorem ev_isi {T : String} {b : Bool} (ha : EV X a r d) (hb : kitB (tyN d) T = some b) (hg : Gl X "isinstance") (hm : X.mg "isinstance" = none) (hg2 : Gl X n) (hm2 : X.mg n = none) (hv : bootBuiltins n = some (.type T)) (hn : n ≠ "__name__" := by decide) (hd : (n == ("__debug__" : Str)) = false := by decide)
    (hs : starEach [a, .Name n p2] X.env = (false, eval a X.env) :: starEach [.Name n p2] X.env := by rfl) (hpl : (backTo pos (starEach [.Name n p2] X.env)).any (·.1) = false := by rfl) : EV X (.Call (.Name "isinstance" p) [a, .Name n p2] [] pos) r (.bool b) :=
  .mk' (pe_callB call_isi hg hm (by decide +kernel) (pa_cons pe_any (pa_cons (pe_bltn (v := .ty T) hg2 hm2 hv rfl hn hd) pa_nil) hs) (by decide) (by decide) hs hpl) fun σ H E => ha.use E fun v H1 e1 dv =>
    ⟨v, .ty T, _, _, b, rfl, .ty T, dq_ty dv, kit_ty hb, e1, .bl b⟩
end
/-! ## calls of the text's own defs -/
def spR (K : PySem.W.Frag) (ar : Nat) (rel : List PyData → PyData → Prop) : Sp := fun vs H Q _ => vs.length = ar ∧ ∃ ds z, DqAll K H vs ds ∧ rel ds z ∧ ∀ v H', Same H H' → Dq K H' v z → Q v H'
def spL (K : PySem.W.Frag) (ar : Nat) (rel : List PyData → List PyData → Prop) : Sp := fun vs H Q _ => vs.length = ar ∧ ∃ ds z, DqAll K H vs ds ∧ rel ds z ∧ ∀ v H', QL K H z v H' → Q v H'
/-- the module's name n is a def that keeps the promise sp -/
structure FnD (P : Program) (w : World) (K : PySem.W.Frag) (mg : Str → Option Value) (base : Heap) (k : Nat) (n : Str) (sp : Sp) : Prop where
  ex : ∃ (f : Addr) (fd : FuncData) (ps : List Str), mg n = some (.ref f) ∧ PySem.W.keepIn K (.ref f) = true ∧ Binds K fd ps [] ∧ FnOk P w K mg base CX0 k f fd ps sp
section
variable {X : Cx} {r : List (Option PyData)} {a : Expr} {es : List Expr} {p pos : Pos} {n : Str} {k ar : Nat} {ds : List PyData}
theorem ev_call {rel : List PyData → PyData → Prop} {z : PyData} (F : FnD X.prog X.w X.K X.mg X.base k n (spR X.K ar rel)) (hr : Room k X.A) (hg : Gl X n) (ha : EVS X (a :: es) r ds) (hl : ds.length = ar) (h : rel ds z) (hdb : (n == ("__debug__" : Str)) = false := by decide)
    (he : starEach (a :: es) X.env = (false, eval a X.env) :: starEach es X.env := by rfl) (hpl : (backTo pos (starEach es X.env)).any (·.1) = false := by rfl) : EV X (.Call (.Name n p) (a :: es) [] pos) r z := by
  obtain ⟨f, fd, ps, h1, h2, h3, h4⟩ := F.ex
  exact .mk' (pe_call h4 hr hg h1 h2 h3 .nil pass0 pa_any hdb he hpl) fun σ H E => ha.use E fun vs H1 e1 dv => ⟨by rw [List.append_nil, dv.length, hl], ds, z, by rw [List.append_nil]; exact dv, h, fun v H2 e2 d => ⟨e1.trans e2, d⟩⟩
theorem el_call {rel : List PyData → List PyData → Prop} {z : List PyData} (F : FnD X.prog X.w X.K X.mg X.base k n (spL X.K ar rel)) (hr : Room k X.A) (hg : Gl X n) (ha : EVS X (a :: es) r ds) (hl : ds.length = ar) (h : rel ds z) (hdb : (n == ("__debug__" : Str)) = false := by decide)
    (he : starEach (a :: es) X.env = (false, eval a X.env) :: starEach es X.env := by rfl) (hpl : (backTo pos (starEach es X.env)).any (·.1) = false := by rfl) : EVL X (.Call (.Name n p) (a :: es) [] pos) r z := by
  obtain ⟨f, fd, ps, h1, h2, h3, h4⟩ := F.ex
  exact .mk' (pe_call h4 hr hg h1 h2 h3 .nil pass0 pa_any hdb he hpl) fun σ H E => ha.use E fun vs H1 e1 dv => ⟨by rw [List.append_nil, dv.length, hl], ds, z, by rw [List.append_nil]; exact dv, h, fun v H2 q => q.back e1⟩
end
/-! ## what is walked -/
/-- while Rl holds of the heap it gives ds, one after the other -/
structure Wk (K : PySem.W.Frag) (Rl : Hp → Hp → Prop) (J : It) (H : Hp) (ds : List PyData) : Prop where
  go : ∀ i H2, Rl H H2 → i < ds.length → J.go i H2
  stop : ∀ H2, Rl H H2 → J.stop ds.length H2
  yld : ∀ i H2 x H3, Rl H H2 → i < ds.length → J.yld i H2 x H3 → Same H2 H3 ∧ ∃ d, ds[i]? = some d ∧ Dq K H3 x d
structure ITR (Rl : Hp → Hp → Prop) (X : Cx) (tg iter : Expr) (r : List (Option PyData)) (ds : List PyData) : Prop where
  run : ∃ wi : TI, PI X tg iter wi ∧ ∀ σ H, EnvD X.K H σ r → ∀ R : It → Hp → Prop, (∀ J H1, Same H H1 → Wk X.K Rl J H1 ds → R J H1) → wi σ H R
theorem Wk.weak {K : PySem.W.Frag} {Rl Rl' : Hp → Hp → Prop} {J : It} {H : Hp} {ds : List PyData} (w : Wk K Rl J H ds) (h : ∀ H', Rl' H H' → Rl H H') : Wk K Rl' J H ds :=
  ⟨fun i H2 e => w.go i H2 (h _ e), fun H2 e => w.stop H2 (h _ e), fun i H2 x H3 e => w.yld i H2 x H3 (h _ e)⟩
theorem ITR.same {X : Cx} {tg iter : Expr} {r : List (Option PyData)} {ds : List PyData} (h : ITR Tk X tg iter r ds) : ITR Same X tg iter r ds := by
  obtain ⟨wi, h1, h2⟩ := h.run
  exact ⟨wi, h1, fun σ H E R q => h2 σ H E R fun J H1 e w => q J H1 e (w.weak fun H' e => Same.tk e)⟩
section
variable {X : Cx} {r : List (Option PyData)} {tg a b : Expr} {p pos : Pos} {ds es : List PyData}
theorem it_tup (h : EV X a r (.tuple ds)) (hn : noLs ds = true) : ITR Tk X tg a r ds := ⟨_, pi_tup pe_any, fun σ H E R q => h.use E fun v H1 e1 dv => by
  cases dv with
  | tup hs ha =>
    refine ⟨_, rfl, ⟨_, hs⟩, q _ H1 e1 ⟨fun i H2 e hi => ?_, fun H2 e => ?_, fun i H2 x H3 e hi y => ?_⟩⟩
    · rw [← ha.length] at hi
      exact walk_tup.goes i H2 hi (sqt_tk e hs)
    · rw [← ha.length]
      exact walk_tup.stops H2 (sqt_tk e hs)
    · rw [← ha.length] at hi
      obtain ⟨h1, h2⟩ := walk_tup.yields i H2 x H3 hi (sqt_tk e hs) y
      subst h1
      obtain ⟨d, h3, h4⟩ := (dps_tk e ha hn).get h2
      exact ⟨Same.refl _, d, h3, h4⟩⟩
theorem it_tupS (h : EV X a r (.tuple ds)) : ITR Same X tg a r ds := ⟨_, pi_tup pe_any, fun σ H E R q => h.use E fun v H1 e1 dv => by
  cases dv with
  | tup hs ha =>
    refine ⟨_, rfl, ⟨_, hs⟩, q _ H1 e1 ⟨fun i H2 e hi => ?_, fun H2 e => ?_, fun i H2 x H3 e hi y => ?_⟩⟩
    · rw [← ha.length] at hi
      exact walk_tup.goes i H2 hi (sqt_tk (Same.tk e) hs)
    · rw [← ha.length]
      exact walk_tup.stops H2 (sqt_tk (Same.tk e) hs)
    · rw [← ha.length] at hi
      obtain ⟨h1, h2⟩ := walk_tup.yields i H2 x H3 hi (sqt_tk (Same.tk e) hs) y
      subst h1
      obtain ⟨d, h3, h4⟩ := (dps_same e ha).get h2
      exact ⟨Same.refl _, d, h3, h4⟩⟩
theorem it_list (h : EV X a r (.list ds)) : ITR Same X tg a r ds := ⟨_, pi_list pe_any, fun σ H E R q => h.use E fun v H1 e1 dv => by
  cases dv with
  | lst hs ha =>
    refine ⟨_, rfl, ⟨_, .of hs⟩, q _ H1 e1 ⟨fun i H2 e hi => ?_, fun H2 e => ?_, fun i H2 x H3 e hi y => ?_⟩⟩
    · rw [← ha.length] at hi
      exact walk_list.goes i H2 hi (.of (e _ _ hs))
    · rw [← ha.length]
      exact walk_list.stops H2 (.of (e _ _ hs))
    · rw [← ha.length] at hi
      obtain ⟨h1, h2⟩ := walk_list.yields i H2 x H3 hi (.of (e _ _ hs)) y
      subst h1
      obtain ⟨d, h3, h4⟩ := (dps_same e ha).get h2
      exact ⟨Same.refl _, d, h3, h4⟩⟩
/-- 0, 1, .. n - 1 -/
def rgD (n : Nat) : List PyData := (List.range n).map fun (i : Nat) => .int (i : Int)
theorem it_range {n : Nat} (h : EVS X [a] r [.int n]) (hb : n < 1000000) (hg : Gl X "range") (hm : X.mg "range" = none) (hs : starEach [a] X.env = [(false, eval a X.env)] := by rfl) : ITR Tk X tg (.Call (.Name "range" p) [a] [] pos) r (rgD n) :=
  ⟨_, pi_range1 hg hm pa_any hs, fun σ H E R q => h.use E fun vs H1 e1 dv => by
    obtain ⟨v, rfl, hv⟩ := dq1 dv
    cases hv
    refine ⟨_, rfl, by omega, by omega, q _ H1 e1 ?_⟩
    have hl : (rgD n).length = n := by simp [rgD]
    refine ⟨fun i H2 e hi => ?_, fun H2 e => ?_, fun i H2 x H3 e hi y => ?_⟩
    · rw [hl] at hi
      show i < (n : Int).toNat
      omega
    · rw [hl]
      show (n : Int).toNat ≤ n
      omega
    · rw [hl] at hi
      obtain ⟨h1, h2⟩ := y
      subst h1 h2
      refine ⟨Same.refl _, .int (i : Nat), ?_, ?_⟩
      · simp [rgD, hi]
      · have : (0 : Int) + (i : Nat) = (i : Nat) := by omega
        rw [this]
        exact .int _⟩
/-- the reading that any source has -/
def tI (X : Cx) (tg iter : Expr) : TI := fun σ H R => ∀ (pins : List (Addr × Obj)) (s : Shared), Inv X pins σ H s → wpAny (model X.prog X.w) X.A (eval iter X.env) (fun v s1 => wpAny (model X.prog X.w) X.A (pyIter v) (PIE X pins σ tg R) X.xe s1) X.xe s
theorem pi_any : PI X tg a (tI X tg a) := ⟨fun pins s σ H R I h => h pins s I⟩
theorem ITR.use {Rl : Hp → Hp → Prop} (h : ITR Rl X tg a r ds) {σ : L2.St} {H : Hp} {R : It → Hp → Prop} (E : EnvD X.K H σ r) (q : ∀ J H1, Same H H1 → Wk X.K Rl J H1 ds → R J H1) : tI X tg a σ H R := by
  obtain ⟨wi, h1, h2⟩ := h.run
  exact fun pins s I => h1.run pins s σ H R I (h2 σ H E R q)
end
/-! ## targets -/
/-- the store of a value that stands for d: what the slots hold then -/
def RdG (K : PySem.W.Frag) (g : TG) (d : PyData) (u : List (Option PyData) → List (Option PyData)) (sl : List Nat) : Prop := ∀ (v : V) (σ : L2.St) (H : Hp) (r : List (Option PyData)) (Q : L2.St → Hp → Prop), Dq K H v d → EnvD K H σ r →
    (∀ σ', EnvD K H σ' (u r) → (∀ vs : List Nat, (∀ i ∈ sl, i ∈ vs) → wipe σ' vs = wipe σ vs) → Q σ' H) → g v σ H Q
theorem wipe_set {σ : L2.St} {i : Nat} {o : Option V} : ∀ {vs : List Nat}, i ∈ vs → wipe (σ.set i o) vs = wipe σ vs
  | [], h => by simp at h
  | v :: vs, h => by
    unfold wipe
    by_cases hv : i ∈ vs
    · rw [wipe_set hv]
    · have e : i = v := by simpa [hv] using h
      subst e
      have q : ∀ (ws : List Nat), i ∉ ws → wipe (σ.set i o) ws = (wipe σ ws).set i o := by
        intro ws
        induction ws with
        | nil => intro _; rfl
        | cons w ws ih =>
          intro hn
          simp only [List.mem_cons, not_or] at hn
          unfold wipe
          rw [ih hn.2, List.set_comm _ _ hn.1]
      rw [q vs hv, List.set_set]
theorem wipe_twice (σ : L2.St) (vs : List Nat) : wipe (wipe σ vs) vs = wipe σ vs := by
  have q : ∀ (ws : List Nat), (∀ i ∈ ws, i ∈ vs) → wipe (wipe σ ws) vs = wipe σ vs := by
    intro ws
    induction ws with
    | nil => intro _; rfl
    | cons w ws ih =>
      intro h
      show wipe ((wipe σ ws).set w none) vs = wipe σ vs
      rw [wipe_set (h w List.mem_cons_self), ih fun i hi => h i (List.mem_cons_of_mem _ hi)]
  exact q vs fun _ h => h
theorem rg_name {K : PySem.W.Frag} (i : Nat) (d : PyData) : RdG K (gName i) d (fun r => r.set i (some d)) [i] := fun v σ H r Q dv E q =>
  q _ (E.set i dv) fun vs h => wipe_set (h i (by simp))
theorem rg_two {K : PySem.W.Frag} (i j : Nat) (d e : PyData) : RdG K (gTup K 2 (gCons (gName i) (gCons (gName j) gNil))) (.tuple [d, e]) (fun r => (r.set i (some d)).set j (some e)) [i, j] := fun v σ H r Q dv E q => by
  cases dv with
  | tup hs ha =>
    obtain ⟨x, y, rfl, hx, hy⟩ := dq2 ha
    exact ⟨_, _, rfl, hs, rfl, x, [y], rfl, y, [], rfl, rfl, q _ ((E.set i hx).set j hy) fun vs h => by rw [wipe_set (h j (by simp)), wipe_set (h i (by simp))]⟩
theorem rg_three {K : PySem.W.Frag} (i j k : Nat) (d e f : PyData) : RdG K (gTup K 3 (gCons (gName i) (gCons (gName j) (gCons (gName k) gNil)))) (.tuple [d, e, f]) (fun r => ((r.set i (some d)).set j (some e)).set k (some f)) [i, j, k] := fun v σ H r Q dv E q => by
  cases dv with
  | tup hs ha =>
    cases ha with
    | cons hx ha =>
      obtain ⟨y, z, rfl, hy, hz⟩ := dq2 ha
      exact ⟨_, _, rfl, hs, rfl, _, _, rfl, y, _, rfl, z, [], rfl, rfl, q _ (((E.set i hx).set j hy).set k hz) fun vs h => by rw [wipe_set (h k (by simp)), wipe_set (h j (by simp)), wipe_set (h i (by simp))]⟩
/-! ## comprehensions -/
def wipeR (r : List (Option PyData)) : List Nat → List (Option PyData)
  | [] => r
  | v :: vs => (wipeR r vs).set v none
theorem wipeR_some {r : List (Option PyData)} {i : Nat} {x : PyData} : ∀ {vs : List Nat}, (wipeR r vs)[i]? = some (some x) → r[i]? = some (some x) ∧ i ∉ vs
  | [], h => ⟨h, by simp⟩
  | v :: vs, h => by
    unfold wipeR at h
    by_cases hi : v = i
    · subst hi
      by_cases hv : v < (wipeR r vs).length
      · rw [List.getElem?_set_self hv] at h; cases h
      · rw [List.getElem?_eq_none (by simpa using hv)] at h; cases h
    · rw [List.getElem?_set_ne hi] at h
      obtain ⟨h1, h2⟩ := wipeR_some h
      exact ⟨h1, by simp only [List.mem_cons, not_or]; exact ⟨fun e => hi e.symm, h2⟩⟩
theorem wipeR_length (r : List (Option PyData)) : ∀ vs : List Nat, (wipeR r vs).length = r.length
  | [] => rfl
  | v :: vs => by unfold wipeR; rw [List.length_set, wipeR_length r vs]
theorem EnvD.wipe {K : PySem.W.Frag} {H : Hp} {σ : L2.St} {r : List (Option PyData)} (E : EnvD K H σ r) (vs : List Nat) : EnvD K H (L2.wipe σ vs) (wipeR r vs) := by
  refine ⟨by rw [wipe_length, wipeR_length, E.len], fun i d h => ?_⟩
  obtain ⟨h1, h2⟩ := wipeR_some h
  obtain ⟨v, h3, h4⟩ := E.get i d h1
  exact ⟨v, by rw [wipe_out h2]; exact h3, h4⟩
/-- a clause's tests -/
structure EVTs (X : Cx) (ifs : List Expr) (r : List (Option PyData)) (b : Bool) : Prop where
  run : ∃ t : TT, PTs X ifs t ∧ ∀ σ H, EnvD X.K H σ r → ∀ Q : Bool → Hp → Prop, (∀ H', Same H H' → Q b H') → t σ H Q
theorem ets_nil {X : Cx} {r : List (Option PyData)} : EVTs X [] r true := ⟨tYes, pts_nil, fun σ H _ Q q => q H (Same.refl H)⟩
theorem ets_one {X : Cx} {r : List (Option PyData)} {c : Expr} {b : Bool} (h : EVT X c r b) : EVTs X [c] r b := ⟨_, pts_one pt_any, fun σ H E Q q => h.use E q⟩
def tTs (X : Cx) (ifs : List Expr) : TT := fun σ H Q => ∀ (pins : List (Addr × Obj)) (s : Shared), Inv X pins σ H s →
  wpAny (model X.prog X.w) X.A (forIn ifs true fun c r => if r = true then do let ok ← isTrue c X.env (eval c X.env); pure (ForInStep.yield ok) else pure (ForInStep.yield r)) (TP X pins σ Q) X.xe s
theorem EVTs.use {X : Cx} {ifs : List Expr} {r : List (Option PyData)} {b : Bool} (h : EVTs X ifs r b) {σ : L2.St} {H : Hp} {Q : Bool → Hp → Prop} (E : EnvD X.K H σ r) (q : ∀ H', Same H H' → Q b H') : tTs X ifs σ H Q := by
  obtain ⟨t, h1, h2⟩ := h.run
  exact fun pins s I => h1.run pins s σ H Q I (h2 σ H E Q q)
/-- of every block's context at once -/
abbrev Blk (X : Cx) (scope : Scope) (P : Cx → Prop) : Prop := ∀ (s : Shared) (H : Hp) (C : Addr) (cl : List (Str × Addr)) (fp : List Addr), P (X.blk s H scope (compEnvC scope cl C X.env) fp)
theorem take_succ {α : Type} {l : List α} {i : Nat} {x : α} (h : l[i]? = some x) : l.take (i + 1) = l.take i ++ [x] := by
  rw [List.take_add_one, h]; rfl
section
variable {X : Cx} {r : List (Option PyData)} {elt tg iter tg1 iter1 : Expr} {ifs ifs1 : List Expr} {scope : Scope} {own : List (Str × Nat)} {pos spos py : Pos} {g g1 : TG} {ds : List PyData} {u u1 : PyData → List (Option PyData) → List (Option PyData)} {sl sl1 : List Nat} {pt : PyData → Bool} {f : PyData → PyData}
theorem lc_read (hi : ITR Same X tg iter r ds) (hr : ∀ d ∈ ds, RdG X.K g d (u d) sl) (hsl : ∀ i ∈ sl, i ∈ own.map (·.2))
    (ht : ∀ d ∈ ds, Blk X scope fun Y => EVTs Y ifs (u d (wipeR r (own.map (·.2)))) (pt d)) (he : ∀ d ∈ ds, pt d = true → Blk X scope fun Y => EV Y elt (u d (wipeR r (own.map (·.2)))) (f d)) (hf : ∀ d ∈ ds, pt d = true → noL (f d) = true) (hz : ds.length ≤ 100000)
    {σ : L2.St} {H : Hp} (E : EnvD X.K H σ r) {Q : VK} (q : ∀ v H', QL X.K H ((ds.filter pt).map f) v H' → Q v H') :
    tLc (tI X tg iter) g (fun σ H Q => Blk X scope fun Y => tTs Y ifs σ H Q) (fun σ H Q => Blk X scope fun Y => tE Y elt σ H Q) (own.map (·.2)) σ H Q := by
  refine hi.use E fun J H1 e1 W D hD => ?_
  refine ⟨fun i m H' => m = ds.length - i ∧ i ≤ ds.length ∧ Same H1 H' ∧ ∃ vs, H' D = some (.lst vs) ∧ DqAll X.K H' vs (((ds.take i).filter pt).map f), ⟨ds.length, by simp, Nat.zero_le _, same_new hD, [], upd_same, .nil⟩, ?_⟩
  rintro i m H2 ⟨rfl, hi', e2, vs, hv, dv⟩
  by_cases hlt : i < ds.length
  · refine .inr ⟨W.go i H2 e2 hlt, fun H' => i + 1 ≤ ds.length ∧ Same H1 H' ∧ ∃ vs, H' D = some (.lst vs) ∧ DqAll X.K H' vs (((ds.take (i + 1)).filter pt).map f), fun H' h => ⟨_, by omega, rfl, h⟩, fun x H3 y => ?_⟩
    obtain ⟨e3, d, hd, dx⟩ := W.yld i H2 x H3 e2 hlt y
    have hm : d ∈ ds := List.mem_of_getElem? hd
    refine hr d hm x _ H3 _ _ dx ((E.same ((e1.trans e2).trans e3)).wipe (own.map (·.2))) fun σ2 E2 hw => ⟨(hw _ hsl).trans (wipe_twice _ _), ?_⟩
    intro s1 H0 C cl fp
    refine (ht d hm s1 H0 C cl fp).use E2 fun H4 e4 => ?_
    have ek : ds.take (i + 1) = ds.take i ++ [d] := take_succ hd
    cases hp : pt d with
    | true =>
      refine iteT fun s2 H0' C' cl' fp' => (he d hm hp s2 H0' C' cl' fp').use (E2.same e4) fun y H5 e5 dy => ?_
      have hv5 : H5 D = some (.lst vs) := e5 _ _ (e4 _ _ (e3 _ _ hv))
      have tk : Tk H5 (upd H5 D (.lst (vs ++ [y]))) := ⟨fun a xs h => by rw [upd_ne (ne_of h hv5 (by intro z; cases z))]; exact h, fun a o w h => by rw [upd_ne (ne_of h hv5 (by intro z; cases z))]; exact h⟩
      have hn : ∀ z ∈ ((ds.take i).filter pt).map f, noL z = true := fun z hz => by
        obtain ⟨w, hw, rfl⟩ := List.mem_map.mp hz
        obtain ⟨hw1, hw2⟩ := List.mem_filter.mp hw
        exact hf w (List.mem_of_mem_take hw1) hw2
      refine ⟨vs, hv5, ?_, by omega, fun a o h => ?_, vs ++ [y], upd_same, ?_⟩
      · have h1 := dv.length
        have h2 : (((ds.take i).filter pt).map f).length ≤ i := by
          rw [List.length_map]
          exact Nat.le_trans (List.length_filter_le _ _) (by rw [List.length_take]; omega)
        have : (100000 : Nat) < sizeLine := by decide
        omega
      · rw [upd_ne (ne_of_none h hD)]
        exact e5 _ _ (e4 _ _ (e3 _ _ (e2 _ _ h)))
      · rw [ek, List.filter_append, List.map_append]
        have hfil : [d].filter pt = [d] := by simp [hp]
        rw [hfil]
        refine (dps_tk tk (dps_same ((e3.trans e4).trans e5) dv) (noLs_iff.mpr hn)).append (.cons (dp_tk tk dy (hf d hm hp)) .nil)
    | false =>
      refine iteF ⟨by omega, (e2.trans e3).trans e4, vs, e4 _ _ (e3 _ _ hv), ?_⟩
      rw [ek, List.filter_append]
      have hfil : [d].filter pt = [] := by simp [hp]
      rw [hfil, List.append_nil]
      exact dps_same (e3.trans e4) dv
  · have e : i = ds.length := by omega
    subst e
    rw [List.take_length] at dv
    exact .inl ⟨W.stop H2 e2, q _ _ ⟨D, vs, rfl, e1.free hD, e1.trans e2, hv, dv⟩⟩
theorem el_lc (hc : X.calm = true) (hN : X.N.Nodup) (hi : ITR Same X tg iter r ds) (ok : BlkOk X.N X.env.scope scope own) (hg : Blk X scope fun Y => PG Y tg g) (hr : ∀ d ∈ ds, RdG X.K g d (u d) sl) (hsl : ∀ i ∈ sl, i ∈ own.map (·.2))
    (ht : ∀ d ∈ ds, Blk X scope fun Y => EVTs Y ifs (u d (wipeR r (own.map (·.2)))) (pt d)) (he : ∀ d ∈ ds, pt d = true → Blk X scope fun Y => EV Y elt (u d (wipeR r (own.map (·.2)))) (f d)) (hf : ∀ d ∈ ds, pt d = true → noL (f d) = true) (hz : ds.length ≤ 100000)
    (hs : ∀ x, foldedSetIterable iter X.env x = pure x := by intro _; rfl) : EVL X (.ListComp elt [⟨tg, iter, ifs, 0⟩] scope pos) r ((ds.filter pt).map f) :=
  .mk' (pe_lc hc hN pi_any ok hg (fun s H C cl fp => ⟨fun pins s1 σ H1 Q I h => h s H C cl fp pins s1 I⟩) (fun s H C cl fp => ⟨fun pins s1 σ H1 Q I h => h s H C cl fp pins s1 I⟩) hs) fun σ H E => lc_read hi hr hsl ht he hf hz E fun v H' h => h
/-- without a test -/
theorem el_map (hc : X.calm = true) (hN : X.N.Nodup) (hi : ITR Same X tg iter r ds) (ok : BlkOk X.N X.env.scope scope own) (hg : Blk X scope fun Y => PG Y tg g) (hr : ∀ d ∈ ds, RdG X.K g d (u d) sl) (hsl : ∀ i ∈ sl, i ∈ own.map (·.2))
    (he : ∀ d ∈ ds, Blk X scope fun Y => EV Y elt (u d (wipeR r (own.map (·.2)))) (f d)) (hf : ∀ d ∈ ds, noL (f d) = true) (hz : ds.length ≤ 100000)
    (hs : ∀ x, foldedSetIterable iter X.env x = pure x := by intro _; rfl) : EVL X (.ListComp elt [⟨tg, iter, [], 0⟩] scope pos) r (ds.map f) := by
  have q := el_lc (pos := pos) (pt := fun _ => true) (f := f) hc hN hi ok hg hr hsl (fun d hd _ _ _ _ _ => ets_nil) (fun d hd _ => he d hd) (fun d hd _ => hf d hd) hz hs
  have e : ds.filter (fun _ => true) = ds := List.filter_eq_self.mpr fun _ _ => rfl
  rw [e] at q
  exact q
end
end TH

namespace TH
open PySem L2
/-- D, a list that H1 does not know, gets one more item -/
theorem grow_tk {H : Hp} {D : Addr} {vs ws : List V} (h : H D = some (.lst vs)) : Tk H (upd H D (.lst ws)) :=
  ⟨fun a xs q => by rw [upd_ne (ne_of q h (by intro z; cases z))]; exact q, fun a o w q => by rw [upd_ne (ne_of q h (by intro z; cases z))]; exact q⟩
def envN (r : List (Option PyData)) : Bool := r.all fun o => match o with
  | none => true
  | some d => noL d
theorem envN_get {r : List (Option PyData)} (h : envN r = true) {i : Nat} {d : PyData} (e : r[i]? = some (some d)) : noL d = true := List.all_eq_true.mp h _ (List.mem_of_getElem? e)
theorem EnvD.tk {K : PySem.W.Frag} {H H' : Hp} {σ : L2.St} {r : List (Option PyData)} (E : EnvD K H σ r) (h : envN r = true) (e : Tk H H') : EnvD K H' σ r := ⟨E.len, fun i d q => by
  obtain ⟨v, h1, h2⟩ := E.get i d q
  exact ⟨v, h1, dp_tk e h2 (envN_get h q)⟩⟩
/-- some slots forgotten -/
structure Sub (rb r : List (Option PyData)) : Prop where
  len : rb.length = r.length
  get : ∀ (i : Nat) (d : PyData), rb[i]? = some (some d) → r[i]? = some (some d)
theorem Sub.refl (r : List (Option PyData)) : Sub r r := ⟨rfl, fun _ _ h => h⟩
theorem EnvD.sub {K : PySem.W.Frag} {H : Hp} {σ : L2.St} {r rb : List (Option PyData)} (E : EnvD K H σ r) (h : Sub rb r) : EnvD K H σ rb := ⟨by rw [E.len, h.len], fun i d q => E.get i d (h.get i d q)⟩
section
variable {X : Cx} {r rb : List (Option PyData)} {elt tg iter tg1 iter1 : Expr} {ifs ifs1 : List Expr} {scope : Scope} {own : List (Str × Nat)} {vs1 : List Nat} {pos spos py : Pos} {g g1 : TG} {ds : List PyData} {es : PyData → List PyData} {u u1 : PyData → List (Option PyData) → List (Option PyData)} {sl sl1 : List Nat} {pt : PyData → Bool} {pt1 : PyData → PyData → Bool} {f : PyData → PyData → PyData}
/-- what the two clauses give of d -/
def row2 (es : PyData → List PyData) (pt : PyData → Bool) (pt1 : PyData → PyData → Bool) (f : PyData → PyData → PyData) (d : PyData) : List PyData := if pt d = true then ((es d).filter (pt1 d)).map (f d) else []
theorem lc2_read (hi : ITR Same X tg iter r ds) (hsub : Sub rb r) (hr : ∀ d ∈ ds, RdG X.K g d (u d) sl) (hsl : ∀ i ∈ sl, i ∈ own.map (·.2)) (hr1 : ∀ d ∈ ds, ∀ e ∈ es d, RdG X.K g1 e (u1 e) sl1) (hsl1 : ∀ i ∈ sl1, i ∈ vs1) (hen : ∀ d ∈ ds, envN (u d (wipeR rb (own.map (·.2)))) = true)
    (ht : ∀ d ∈ ds, Blk X scope fun Y => EVTs Y ifs (u d (wipeR rb (own.map (·.2)))) (pt d))
    (hi1 : ∀ d ∈ ds, pt d = true → Blk X scope fun Y => ITR Tk Y tg1 iter1 (u d (wipeR rb (own.map (·.2)))) (es d))
    (ht1 : ∀ d ∈ ds, pt d = true → ∀ e ∈ es d, Blk X scope fun Y => EVTs Y ifs1 (u1 e (wipeR (u d (wipeR rb (own.map (·.2)))) vs1)) (pt1 d e))
    (he : ∀ d ∈ ds, pt d = true → ∀ e ∈ es d, pt1 d e = true → Blk X scope fun Y => EV Y elt (u1 e (wipeR (u d (wipeR rb (own.map (·.2)))) vs1)) (f d e)) (hf : ∀ d ∈ ds, pt d = true → ∀ e ∈ es d, pt1 d e = true → noL (f d e) = true)
    (hz : ∀ i, ((ds.take i).flatMap (row2 es pt pt1 f)).length ≤ 50000) (hz1 : ∀ d ∈ ds, (es d).length ≤ 40000)
    {σ : L2.St} {H : Hp} (E : EnvD X.K H σ r) {Q : VK} (q : ∀ v H', QL X.K H (ds.flatMap (row2 es pt pt1 f)) v H' → Q v H') :
    tLc2 (tI X tg iter) g (fun σ H Q => Blk X scope fun Y => tTs Y ifs σ H Q) (fun σ H R => Blk X scope fun Y => tI Y tg1 iter1 σ H R) g1 (fun σ H Q => Blk X scope fun Y => tTs Y ifs1 σ H Q) (fun σ H Q => Blk X scope fun Y => tE Y elt σ H Q) (own.map (·.2)) vs1 σ H Q := by
  refine hi.use E fun J H1 e1 W D hD => ?_
  have hnr : ∀ d ∈ ds, ∀ z ∈ row2 es pt pt1 f d, noL z = true := fun d hd z hw => by
    unfold row2 at hw
    by_cases hp : pt d = true
    · rw [if_pos hp] at hw
      obtain ⟨e, he1, rfl⟩ := List.mem_map.mp hw
      obtain ⟨h1, h2⟩ := List.mem_filter.mp he1
      exact hf d hd hp e h1 h2
    · rw [if_neg hp] at hw
      cases hw
  have hn : ∀ i, ∀ z ∈ (ds.take i).flatMap (row2 es pt pt1 f), noL z = true := fun i z hz => by
    obtain ⟨d, hd, hw⟩ := List.mem_flatMap.mp hz
    exact hnr d (List.mem_of_mem_take hd) z hw
  refine ⟨fun i m H' => m = ds.length - i ∧ i ≤ ds.length ∧ Same H1 H' ∧ ∃ vs, H' D = some (.lst vs) ∧ DqAll X.K H' vs ((ds.take i).flatMap (row2 es pt pt1 f)), ⟨ds.length, by simp, Nat.zero_le _, same_new hD, [], upd_same, .nil⟩, ?_⟩
  rintro i m H2 ⟨rfl, hi', e2, vs, hv, dv⟩
  by_cases hlt : i < ds.length
  · refine .inr ⟨W.go i H2 e2 hlt, fun H' => i + 1 ≤ ds.length ∧ Same H1 H' ∧ ∃ vs, H' D = some (.lst vs) ∧ DqAll X.K H' vs ((ds.take (i + 1)).flatMap (row2 es pt pt1 f)), fun H' h => ⟨_, by omega, rfl, h⟩, fun x H3 y => ?_⟩
    obtain ⟨e3, d, hd, dx⟩ := W.yld i H2 x H3 e2 hlt y
    have hm : d ∈ ds := List.mem_of_getElem? hd
    refine hr d hm x _ H3 _ _ dx (((E.sub hsub).same ((e1.trans e2).trans e3)).wipe (own.map (·.2))) fun σ2 E2 hw => ⟨(hw _ hsl).trans (wipe_twice _ _), ?_⟩
    intro s1 H0 C cl fp
    refine (ht d hm s1 H0 C cl fp).use E2 fun H4 e4 => ?_
    have ek : (ds.take (i + 1)).flatMap (row2 es pt pt1 f) = (ds.take i).flatMap (row2 es pt pt1 f) ++ row2 es pt pt1 f d := by rw [take_succ hd, List.flatMap_append, List.flatMap_singleton]
    cases hp : pt d with
    | true =>
      refine iteT fun s2 Ha Ca cla fpa => (hi1 d hm hp s2 Ha Ca cla fpa).use (E2.same e4) fun J1 H5 e5 W1 => ?_
      have e25 : Same H2 H5 := (e3.trans e4).trans e5
      have hrow : row2 es pt pt1 f d = ((es d).filter (pt1 d)).map (f d) := by unfold row2; rw [if_pos hp]
      have E5 := E2.same (e4.trans e5)
      refine ⟨fun j k H' => k = (es d).length - j ∧ j ≤ (es d).length ∧ Same H1 H' ∧ Tk H5 H' ∧ ∃ vs, H' D = some (.lst vs) ∧ DqAll X.K H' vs ((ds.take i).flatMap (row2 es pt pt1 f) ++ (((es d).take j).filter (pt1 d)).map (f d)),
        ⟨(es d).length, by simp, Nat.zero_le _, e2.trans e25, Tk.refl _, vs, e25 _ _ hv, by simpa using dps_same e25 dv⟩, ?_⟩
      rintro j k H6 ⟨rfl, hj', e6, t6, vs6, hv6, dv6⟩
      by_cases hjt : j < (es d).length
      · refine .inr ⟨W1.go j H6 t6 hjt, fun H' => j + 1 ≤ (es d).length ∧ Same H1 H' ∧ Tk H5 H' ∧ ∃ vs, H' D = some (.lst vs) ∧ DqAll X.K H' vs ((ds.take i).flatMap (row2 es pt pt1 f) ++ (((es d).take (j + 1)).filter (pt1 d)).map (f d)), fun H' h => ⟨_, by omega, rfl, h⟩, fun x7 H7 y7 => ?_⟩
        obtain ⟨e7, e, hde, dx7⟩ := W1.yld j H6 x7 H7 t6 hjt y7
        have hme : e ∈ es d := List.mem_of_getElem? hde
        have E7 : EnvD X.K H7 σ2 _ := E5.tk (hen d hm) (t6.trans (Same.tk e7))
        refine hr1 d hm e hme x7 _ H7 _ _ dx7 (E7.wipe vs1) fun σ3 E8 hw3 => ⟨(hw3 _ hsl1).trans (wipe_twice _ _), ?_⟩
        intro s3 Hb Cb clb fpb
        refine (ht1 d hm hp e hme s3 Hb Cb clb fpb).use E8 fun H8 e8 => ?_
        have ekj : (es d).take (j + 1) = (es d).take j ++ [e] := take_succ hde
        have hnj : ∀ z ∈ (ds.take i).flatMap (row2 es pt pt1 f) ++ (((es d).take j).filter (pt1 d)).map (f d), noL z = true := fun z hz => by
          rcases List.mem_append.mp hz with hz | hz
          · exact hn i z hz
          · obtain ⟨w, hw1, rfl⟩ := List.mem_map.mp hz
            obtain ⟨h1, h2⟩ := List.mem_filter.mp hw1
            exact hf d hm hp w (List.mem_of_mem_take h1) h2
        cases hq : pt1 d e with
        | true =>
          refine iteT fun s4 Hc Cc clc fpc => (he d hm hp e hme hq s4 Hc Cc clc fpc).use (E8.same e8) fun y9 H9 e9 dy9 => ?_
          have hv9 : H9 D = some (.lst vs6) := e9 _ _ (e8 _ _ (e7 _ _ hv6))
          refine ⟨vs6, hv9, ?_, by omega, fun a o h => ?_, ?_, vs6 ++ [y9], upd_same, ?_⟩
          · have h1 := dv6.length
            rw [List.length_append, List.length_map] at h1
            have h2 : (((es d).take j).filter (pt1 d)).length ≤ j := Nat.le_trans (List.length_filter_le _ _) (by rw [List.length_take]; omega)
            have h3 := hz i
            have h4 := hz1 d hm
            have : (100000 : Nat) < sizeLine := by decide
            omega
          · rw [upd_ne (ne_of_none h hD)]
            exact e9 _ _ (e8 _ _ (e7 _ _ (e6 _ _ h)))
          · exact (t6.trans (Same.tk ((e7.trans e8).trans e9))).trans (grow_tk hv9)
          · rw [ekj, List.filter_append, List.map_append, ← List.append_assoc]
            have hfil : [e].filter (pt1 d) = [e] := by simp [hq]
            rw [hfil]
            exact (dps_tk (grow_tk hv9) (dps_same ((e7.trans e8).trans e9) dv6) (noLs_iff.mpr hnj)).append (.cons (dp_tk (grow_tk hv9) dy9 (hf d hm hp e hme hq)) .nil)
        | false =>
          refine iteF ⟨by omega, (e6.trans e7).trans e8, t6.trans (Same.tk (e7.trans e8)), vs6, e8 _ _ (e7 _ _ hv6), ?_⟩
          rw [ekj, List.filter_append]
          have hfil : [e].filter (pt1 d) = [] := by simp [hq]
          rw [hfil, List.append_nil]
          exact dps_same (e7.trans e8) dv6
      · have ej : j = (es d).length := by omega
        subst ej
        rw [List.take_length] at dv6
        refine .inl ⟨W1.stop H6 t6, by omega, e6, vs6, hv6, ?_⟩
        rw [ek, hrow]
        exact dv6
    | false =>
      refine iteF ⟨by omega, (e2.trans e3).trans e4, vs, e4 _ _ (e3 _ _ hv), ?_⟩
      have hrow : row2 es pt pt1 f d = [] := by unfold row2; rw [if_neg (by rw [hp]; decide)]
      rw [ek, hrow, List.append_nil]
      exact dps_same (e3.trans e4) dv
  · have e : i = ds.length := by omega
    subst e
    rw [List.take_length] at dv
    exact .inl ⟨W.stop H2 e2, q _ _ ⟨D, vs, rfl, e1.free hD, e1.trans e2, hv, dv⟩⟩
theorem el_lc2 (hc : X.calm = true) (hN : X.N.Nodup) (hi : ITR Same X tg iter r ds) (ok : BlkOk X.N X.env.scope scope own) (hv : ∀ i ∈ vs1, i ∈ own.map (·.2)) (hg : Blk X scope fun Y => PG Y tg g) (hg1 : Blk X scope fun Y => PG Y tg1 g1)
    (hsub : Sub rb r) (hr : ∀ d ∈ ds, RdG X.K g d (u d) sl) (hsl : ∀ i ∈ sl, i ∈ own.map (·.2)) (hr1 : ∀ d ∈ ds, ∀ e ∈ es d, RdG X.K g1 e (u1 e) sl1) (hsl1 : ∀ i ∈ sl1, i ∈ vs1) (hen : ∀ d ∈ ds, envN (u d (wipeR rb (own.map (·.2)))) = true)
    (ht : ∀ d ∈ ds, Blk X scope fun Y => EVTs Y ifs (u d (wipeR rb (own.map (·.2)))) (pt d))
    (hi1 : ∀ d ∈ ds, pt d = true → Blk X scope fun Y => ITR Tk Y tg1 iter1 (u d (wipeR rb (own.map (·.2)))) (es d))
    (ht1 : ∀ d ∈ ds, pt d = true → ∀ e ∈ es d, Blk X scope fun Y => EVTs Y ifs1 (u1 e (wipeR (u d (wipeR rb (own.map (·.2)))) vs1)) (pt1 d e))
    (he : ∀ d ∈ ds, pt d = true → ∀ e ∈ es d, pt1 d e = true → Blk X scope fun Y => EV Y elt (u1 e (wipeR (u d (wipeR rb (own.map (·.2)))) vs1)) (f d e)) (hf : ∀ d ∈ ds, pt d = true → ∀ e ∈ es d, pt1 d e = true → noL (f d e) = true)
    (hz : ∀ i, ((ds.take i).flatMap (row2 es pt pt1 f)).length ≤ 50000) (hz1 : ∀ d ∈ ds, (es d).length ≤ 40000)
    (hs : ∀ x, foldedSetIterable iter X.env x = pure x := by intro _; rfl) (hs1 : ∀ env x, foldedSetIterable iter1 env x = pure x := by intro _ _; rfl) : EVL X (.ListComp elt [⟨tg, iter, ifs, 0⟩, ⟨tg1, iter1, ifs1, 0⟩] scope pos) r (ds.flatMap (row2 es pt pt1 f)) :=
  .mk' (pe_lc2 hc hN pi_any ok hv hg (fun s H C cl fp => ⟨fun pins s1 σ H1 Q I h => h s H C cl fp pins s1 I⟩) (fun s H C cl fp => ⟨fun pins s1 σ H1 R I h => h s H C cl fp pins s1 I⟩) hg1 (fun s H C cl fp => ⟨fun pins s1 σ H1 Q I h => h s H C cl fp pins s1 I⟩) (fun s H C cl fp => ⟨fun pins s1 σ H1 Q I h => h s H C cl fp pins s1 I⟩) hs hs1) fun σ H E =>
    lc2_read hi hsub hr hsl hr1 hsl1 hen ht hi1 ht1 he hf hz hz1 E fun v H' h => h
end
end TH

namespace TH
open PySem L2
/-! ## what the slots hold -/
inductive Sl where
  /-- nothing is known -/
  | no
  /-- a datum that does not change -/
  | im (d : PyData)
  /-- a list of this def's own, at p: it may be changed -/
  | ml (p : Addr) (ds : List PyData)
  /-- this very value -/
  | va (v : V)
  /-- this very value, a datum that does not change -/
  | fx (v : V) (d : PyData)
  /-- the script, a list of ints that stays -/
  | sc (a : Addr) (ss : List Int)
  /-- any other thing of this def's own, at p, as it stands -/
  | ob (p : Addr) (o : HO)
def Sl.adr : Sl → Option Addr
  | .ml p _ => some p
  | .ob p _ => some p
  | _ => none
/-- a thing that may change -/
def mutO : HO → Bool
  | .tup _ => false
  | .frz _ _ => false
  | _ => true
def view : Sl → Option PyData
  | .im d => some d
  | .fx _ d => some d
  | .ml _ ds => some (.list ds)
  | _ => none
def SlOk (K : PySem.W.Frag) (B H : Hp) (v : V) : Sl → Prop
  | .no => True
  | .im d => Dq K B v d ∨ (Dq K H v d ∧ noL d = true)
  | .ml p ds => v = .ref p ∧ B p = none ∧ noLs ds = true ∧ ∃ vs, H p = some (.lst vs) ∧ DqAll K H vs ds
  | .va w => v = w
  | .fx w d => v = w ∧ (Dq K B v d ∨ (Dq K H v d ∧ noL d = true))
  | .sc a ss => v = .ref a ∧ SqL K B a (ss.map V.int)
  | .ob p o => v = .ref p ∧ B p = none ∧ mutO o = true ∧ H p = some o
theorem sqL_same {K : PySem.W.Frag} {H H' : Hp} {a : Addr} {xs : List V} (e : Same H H') (h : SqL K H a xs) : SqL K H' a xs := by
  rcases h with (h | ⟨o, h⟩) | h
  · exact .inl (.inl (e _ _ h))
  · exact .inl (.inr ⟨o, e _ _ h⟩)
  · exact .inr h
/-- B: what was there ahead and stays; g: things that no slot holds -/
structure At (K : PySem.W.Frag) (B H : Hp) (σ : L2.St) (ρ : List Sl) (γ : List (V × Sl)) : Prop where
  same : Same B H
  len : σ.length = ρ.length
  ok : ∀ (i : Nat) (x : Sl), ρ[i]? = some x → x = .no ∨ ∃ v, σ[i]? = some (some v) ∧ SlOk K B H v x
  gh : ∀ g ∈ γ, SlOk K B H g.1 g.2
  nd : (ρ.filterMap Sl.adr ++ γ.filterMap fun g => g.2.adr).Nodup
section
variable {K : PySem.W.Frag} {B H H' : Hp} {σ : L2.St} {ρ : List Sl} {γ : List (V × Sl)} {v : V} {x : Sl} {i : Nat} {d : PyData} {p : Addr} {ds : List PyData}
theorem SlOk.to (h : SlOk K B H v x) (e : Same H H') : SlOk K B H' v x := by
  cases x with
  | no => trivial
  | im d =>
    rcases h with h | ⟨h1, h2⟩
    · exact .inl h
    · exact .inr ⟨dp_same e h1, h2⟩
  | ml p ds =>
    obtain ⟨h1, h2, h3, vs, h4, h5⟩ := h
    exact ⟨h1, h2, h3, vs, e _ _ h4, dps_same e h5⟩
  | va w => exact h
  | fx w d =>
    obtain ⟨h0, h⟩ := h
    refine ⟨h0, ?_⟩
    rcases h with h | ⟨h1, h2⟩
    · exact .inl h
    · exact .inr ⟨dp_same e h1, h2⟩
  | sc a ss => exact h
  | ob p o =>
    obtain ⟨h1, h2, h3, h4⟩ := h
    exact ⟨h1, h2, h3, e _ _ h4⟩
theorem At.to (A : At K B H σ ρ γ) (e : Same H H') : At K B H' σ ρ γ :=
  ⟨A.same.trans e, A.len, fun i x h => (A.ok i x h).imp id fun ⟨v, h1, h2⟩ => ⟨v, h1, h2.to e⟩, fun g h => (A.gh g h).to e, A.nd⟩
theorem At.envD (A : At K B H σ ρ γ) : EnvD K H σ (ρ.map view) := by
  refine ⟨by rw [List.length_map, A.len], fun i d h => ?_⟩
  rw [List.getElem?_map] at h
  cases hx : ρ[i]? with
  | none => rw [hx] at h; cases h
  | some x =>
    rw [hx] at h
    have hv : view x = some d := Option.some.inj h
    rcases A.ok i x hx with rfl | ⟨v, h1, h2⟩
    · cases hv
    · cases x with
      | no => cases hv
      | im e =>
        cases hv
        refine ⟨v, h1, ?_⟩
        rcases h2 with h2 | ⟨h2, _⟩
        · exact dp_same A.same h2
        · exact h2
      | ml p es =>
        cases hv
        obtain ⟨h3, _, _, vs, h5, h6⟩ := h2
        subst h3
        exact ⟨_, h1, .lst h5 h6⟩
      | va w => cases hv
      | fx w e =>
        cases hv
        refine ⟨v, h1, ?_⟩
        rcases h2.2 with h2 | ⟨h2, _⟩
        · exact dp_same A.same h2
        · exact h2
      | sc a ss => cases hv
      | ob p o => cases hv
theorem fm_set {α β : Type} {f : α → Option β} {x : α} (hx : f x = none) : ∀ (l : List α) (i : Nat), ((l.set i x).filterMap f).Sublist (l.filterMap f)
  | [], _ => by simp
  | y :: l, 0 => by
    rw [List.set_cons_zero, List.filterMap_cons_none hx]
    cases hy : f y with
    | none => rw [List.filterMap_cons_none hy]; exact List.Sublist.refl _
    | some z => rw [List.filterMap_cons_some hy]; exact List.sublist_cons_self _ _
  | y :: l, i + 1 => by
    rw [List.set_cons_succ]
    cases hy : f y with
    | none => rw [List.filterMap_cons_none hy, List.filterMap_cons_none hy]; exact fm_set hx l i
    | some z => rw [List.filterMap_cons_some hy, List.filterMap_cons_some hy]; exact (fm_set hx l i).cons₂ z
theorem At.set0 (A : At K B H σ ρ γ) (i : Nat) (hx : x.adr = none) (h : SlOk K B H v x) : At K B H (σ.set i (some v)) (ρ.set i x) γ := by
  refine ⟨A.same, by simp [A.len], fun j y q => ?_, A.gh, A.nd.sublist ((fm_set hx ρ i).append (List.Sublist.refl _))⟩
  by_cases hj : i = j
  · subst hj
    by_cases hl : i < ρ.length
    · rw [List.getElem?_set_self hl] at q
      cases q
      exact .inr ⟨v, List.getElem?_set_self (by rw [A.len]; exact hl), h⟩
    · rw [List.getElem?_eq_none (by simpa using hl)] at q
      cases q
  · rw [List.getElem?_set_ne hj] at q ⊢
    exact A.ok j y q
theorem At.setI (A : At K B H σ ρ γ) (i : Nat) (h : Dq K H v d) (hn : noL d = true) : At K B H (σ.set i (some v)) (ρ.set i (.im d)) γ := A.set0 (x := .im d) i rfl (.inr ⟨h, hn⟩)
theorem At.setV (A : At K B H σ ρ γ) (i : Nat) (v : V) : At K B H (σ.set i (some v)) (ρ.set i (.va v)) γ := A.set0 (x := .va v) i rfl rfl
theorem At.drop (A : At K B H σ ρ γ) (i : Nat) : At K B H σ (ρ.set i .no) γ := by
  refine ⟨A.same, by simp [A.len], fun j y q => ?_, A.gh, A.nd.sublist ((fm_set rfl ρ i).append (List.Sublist.refl _))⟩
  by_cases hj : i = j
  · subst hj
    by_cases hl : i < ρ.length
    · rw [List.getElem?_set_self hl] at q
      cases q
      exact .inl rfl
    · rw [List.getElem?_eq_none (by simpa using hl)] at q
      cases q
  · rw [List.getElem?_set_ne hj] at q
    exact A.ok j y q
/-- what the own things' places are known for -/
theorem SlOk.live {q : Addr} (ok : SlOk K B H v x) (e : x.adr = some q) : v = .ref q ∧ B q = none ∧ ∃ o, H q = some o ∧ mutO o = true := by
  cases x with
  | ml p ds =>
    cases e
    obtain ⟨h1, h2, _, vs, h4, _⟩ := ok
    exact ⟨h1, h2, _, h4, rfl⟩
  | ob p o =>
    cases e
    obtain ⟨h1, h2, h3, h4⟩ := ok
    exact ⟨h1, h2, o, h4, h3⟩
  | no => cases e
  | im d => cases e
  | va w => cases e
  | fx w d => cases e
  | sc a ss => cases e
theorem At.live (A : At K B H σ ρ γ) {q : Addr} (h : q ∈ ρ.filterMap Sl.adr ++ γ.filterMap fun g => g.2.adr) : B q = none ∧ ∃ o, H q = some o := by
  rcases List.mem_append.mp h with h | h
  · obtain ⟨x, hx, e⟩ := List.mem_filterMap.mp h
    obtain ⟨i, hi⟩ := List.mem_iff_getElem?.mp hx
    rcases A.ok i x hi with rfl | ⟨v, _, ok⟩
    · cases e
    · obtain ⟨_, h1, o, h2, _⟩ := ok.live e
      exact ⟨h1, o, h2⟩
  · obtain ⟨g, hg, e⟩ := List.mem_filterMap.mp h
    obtain ⟨_, h1, o, h2, _⟩ := (A.gh g hg).live e
    exact ⟨h1, o, h2⟩
theorem fm_setS {α β : Type} {f : α → Option β} {x : α} {z : β} (hx : f x = some z) : ∀ (l : List α) (i : Nat), ((l.set i x).filterMap f).Sublist (l.filterMap f) ∨ ∃ a b, (l.set i x).filterMap f = a ++ z :: b ∧ (a ++ b).Sublist (l.filterMap f)
  | [], _ => .inl (by simp)
  | y :: l, 0 => by
    refine .inr ⟨[], l.filterMap f, ?_, ?_⟩
    · rw [List.set_cons_zero, List.filterMap_cons_some hx]; rfl
    · cases hy : f y with
      | none => rw [List.filterMap_cons_none hy]; exact List.Sublist.refl _
      | some w => rw [List.filterMap_cons_some hy]; exact List.sublist_cons_self _ _
  | y :: l, i + 1 => by
    rw [List.set_cons_succ]
    cases hy : f y with
    | none => rw [List.filterMap_cons_none hy, List.filterMap_cons_none hy]; exact fm_setS hx l i
    | some w =>
      rw [List.filterMap_cons_some hy, List.filterMap_cons_some hy]
      rcases fm_setS hx l i with h | ⟨a, b, h1, h2⟩
      · exact .inl (h.cons₂ w)
      · exact .inr ⟨w :: a, b, by rw [h1]; rfl, h2.cons₂ w⟩
theorem nodup_put {α : Type} {a b c : List α} {z : α} (h : ((a ++ b) ++ c).Nodup) (hz : z ∉ (a ++ b) ++ c) : ((a ++ z :: b) ++ c).Nodup := by
  have p : List.Perm ((a ++ z :: b) ++ c) (z :: ((a ++ b) ++ c)) := by
    rw [← List.cons_append]
    exact (List.perm_middle).append_right c
  exact p.nodup_iff.mpr (List.nodup_cons.mpr ⟨hz, h⟩)
/-- a new thing into slot i -/
theorem At.setN (A : At K B H σ ρ γ) (i : Nat) (hp : H p = none) (e : Same H H') (hx : x.adr = some p) (ok : SlOk K B H' (.ref p) x) : At K B H' (σ.set i (some (.ref p))) (ρ.set i x) γ := by
  have A' := A.to e
  refine ⟨A'.same, by simp [A.len], fun j y q => ?_, A'.gh, ?_⟩
  · by_cases hj : i = j
    · subst hj
      by_cases hl : i < ρ.length
      · rw [List.getElem?_set_self hl] at q
        cases q
        exact .inr ⟨.ref p, List.getElem?_set_self (by rw [A.len]; exact hl), ok⟩
      · rw [List.getElem?_eq_none (by simpa using hl)] at q
        cases q
    · rw [List.getElem?_set_ne hj] at q ⊢
      exact A'.ok j y q
  · have hz : p ∉ ρ.filterMap Sl.adr ++ γ.filterMap fun g => g.2.adr := fun hm => by
      obtain ⟨_, o, q⟩ := A.live hm
      rw [hp] at q
      cases q
    rcases fm_setS (f := Sl.adr) (x := x) (z := p) hx ρ i with s | ⟨a, b, s1, s2⟩
    · exact A.nd.sublist (s.append (List.Sublist.refl _))
    · rw [s1]
      refine nodup_put (A.nd.sublist (s2.append (List.Sublist.refl _))) fun hm => hz ?_
      rcases List.mem_append.mp hm with hm | hm
      · exact List.mem_append.mpr (.inl (s2.subset hm))
      · exact List.mem_append.mpr (.inr hm)
theorem At.setL (A : At K B H σ ρ γ) (i : Nat) {vs : List V} (hp : H p = none) (e : Same H H') (h : H' p = some (.lst vs)) (hd : DqAll K H' vs ds) (hn : noLs ds = true) : At K B H' (σ.set i (some (.ref p))) (ρ.set i (.ml p ds)) γ :=
  A.setN (x := .ml p ds) i hp e rfl ⟨rfl, A.same.free hp, hn, vs, h, hd⟩
theorem At.setO (A : At K B H σ ρ γ) (i : Nat) {o : HO} (hp : H p = none) (e : Same H H') (h : H' p = some o) (hm : mutO o = true) : At K B H' (σ.set i (some (.ref p))) (ρ.set i (.ob p o)) γ :=
  A.setN (x := .ob p o) i hp e rfl ⟨rfl, A.same.free hp, hm, h⟩
theorem At.addG (A : At K B H σ ρ γ) (h : SlOk K B H v x) (hx : x.adr = none) : At K B H σ ρ ((v, x) :: γ) := by
  refine ⟨A.same, A.len, A.ok, fun g hg => ?_, ?_⟩
  · rcases List.mem_cons.mp hg with rfl | hg
    · exact h
    · exact A.gh g hg
  · have : ((v, x) :: γ).filterMap (fun g => g.2.adr) = γ.filterMap fun g => g.2.adr := List.filterMap_cons_none hx
    rw [this]
    exact A.nd
theorem At.addL (A : At K B H σ ρ γ) {vs : List V} (hp : H p = none) (e : Same H H') (h : H' p = some (.lst vs)) (hd : DqAll K H' vs ds) (hn : noLs ds = true) : At K B H' σ ρ ((.ref p, .ml p ds) :: γ) := by
  have A' := A.to e
  refine ⟨A'.same, A'.len, A'.ok, fun g hg => ?_, ?_⟩
  · rcases List.mem_cons.mp hg with rfl | hg
    · exact ⟨rfl, A.same.free hp, hn, vs, h, hd⟩
    · exact A'.gh g hg
  · have hz : p ∉ ρ.filterMap Sl.adr ++ γ.filterMap fun g => g.2.adr := fun hm => by
      obtain ⟨_, o, q⟩ := A.live hm
      rw [hp] at q
      cases q
    have e1 : ((V.ref p, Sl.ml p ds) :: γ).filterMap (fun g => g.2.adr) = p :: γ.filterMap fun g => g.2.adr := List.filterMap_cons_some rfl
    rw [e1]
    have q := nodup_put (a := ρ.filterMap Sl.adr) (b := γ.filterMap fun g => g.2.adr) (c := []) (z := p) (by rw [List.append_nil]; exact A.nd) (by rw [List.append_nil]; exact hz)
    rw [List.append_nil] at q
    exact q
theorem At.unG {g : V × Sl} (A : At K B H σ ρ (g :: γ)) : At K B H σ ρ γ := by
  refine ⟨A.same, A.len, A.ok, fun h hg => A.gh h (List.mem_cons_of_mem _ hg), A.nd.sublist ((List.Sublist.refl _).append ?_)⟩
  exact (List.sublist_cons_self g γ).filterMap _
theorem tk_upd {p : Addr} {o o' : HO} (h : H p = some o) (hm : mutO o = true) : Tk H (upd H p o') :=
  ⟨fun a xs q => by rw [upd_ne (ne_of q h (by intro z; subst z; cases hm))]; exact q, fun a u w q => by rw [upd_ne (ne_of q h (by intro z; subst z; cases hm))]; exact q⟩
theorem SlOk.keep {o' : HO} (ok : SlOk K B H v x) (tk : Tk H (upd H p o')) (ne : ∀ q, x.adr = some q → q ≠ p) : SlOk K B (upd H p o') v x := by
  cases x with
  | no => trivial
  | im d =>
    rcases ok with ok | ⟨o1, o2⟩
    · exact .inl ok
    · exact .inr ⟨dp_tk tk o1 o2, o2⟩
  | ml q es =>
    obtain ⟨o1, o2, o3, vs, o4, o5⟩ := ok
    exact ⟨o1, o2, o3, vs, by rw [upd_ne (ne q rfl)]; exact o4, dps_tk tk o5 o3⟩
  | va w => exact ok
  | fx w d =>
    obtain ⟨o0, ok⟩ := ok
    refine ⟨o0, ?_⟩
    rcases ok with ok | ⟨o1, o2⟩
    · exact .inl ok
    · exact .inr ⟨dp_tk tk o1 o2, o2⟩
  | sc a ss => exact ok
  | ob q o =>
    obtain ⟨o1, o2, o3, o4⟩ := ok
    exact ⟨o1, o2, o3, by rw [upd_ne (ne q rfl)]; exact o4⟩
/-- the own thing in slot i is changed -/
theorem At.mutG {o' : HO} {y : Sl} (A : At K B H σ ρ γ) (hi : ρ[i]? = some x) (hx : x.adr = some p) (hy : y.adr = some p) (ok : SlOk K B (upd H p o') (.ref p) y) : At K B (upd H p o') σ (ρ.set i y) γ := by
  obtain ⟨v, h1, h2⟩ := (A.ok i _ hi).resolve_left (by intro z; subst z; cases hx)
  obtain ⟨ev, h3, o, h4, h5⟩ := h2.live hx
  subst ev
  have tk : Tk H (upd H p o') := tk_upd h4 h5
  have hil : i < ρ.length := by
    rcases Nat.lt_or_ge i ρ.length with h | h
    · exact h
    · rw [List.getElem?_eq_none h] at hi
      cases hi
  have split : ∃ a b, ρ.filterMap Sl.adr = a ++ p :: b ∧ (ρ.set i y).filterMap Sl.adr = a ++ p :: b ∧ ∀ j z q, j ≠ i → ρ[j]? = some z → z.adr = some q → q ∈ a ++ b := by
    clear A h1 h2 h3 h4 h5 tk ok
    induction ρ generalizing i with
    | nil => simp at hil
    | cons z l ih =>
      cases i with
      | zero =>
        have e0 : z = x := by simpa using hi
        subst e0
        refine ⟨[], l.filterMap Sl.adr, List.filterMap_cons_some hx, by rw [List.set_cons_zero]; exact List.filterMap_cons_some hy, fun j z' q hj hq ha => ?_⟩
        cases j with
        | zero => exact absurd rfl hj
        | succ j => exact List.mem_filterMap.mpr ⟨z', List.mem_of_getElem? (by simpa using hq), ha⟩
      | succ i =>
        obtain ⟨a, b, s1, s2, s3⟩ := ih (i := i) (by simpa using hi) (by simpa using hil)
        cases hz : z.adr with
        | none =>
          refine ⟨a, b, by rw [List.filterMap_cons_none hz]; exact s1, by rw [List.set_cons_succ, List.filterMap_cons_none hz]; exact s2, fun j z' q hj hq ha => ?_⟩
          cases j with
          | zero =>
            have : z = z' := by simpa using hq
            subst this
            rw [hz] at ha
            cases ha
          | succ j => exact s3 j z' q (by omega) (by simpa using hq) ha
        | some w =>
          refine ⟨w :: a, b, by rw [List.filterMap_cons_some hz, s1]; rfl, by rw [List.set_cons_succ, List.filterMap_cons_some hz, s2]; rfl, fun j z' q hj hq ha => ?_⟩
          cases j with
          | zero =>
            have : z = z' := by simpa using hq
            subst this
            rw [hz] at ha
            cases ha
            exact List.mem_cons_self
          | succ j => exact List.mem_cons_of_mem _ (s3 j z' q (by omega) (by simpa using hq) ha)
  obtain ⟨a, b, s1, s2, s3⟩ := split
  have nd := A.nd
  rw [s1] at nd
  have nd' : (p :: ((a ++ b) ++ γ.filterMap fun g => g.2.adr)).Nodup := by
    have q : List.Perm ((a ++ p :: b) ++ γ.filterMap fun g => g.2.adr) (p :: ((a ++ b) ++ γ.filterMap fun g => g.2.adr)) := by
      rw [← List.cons_append]
      exact (List.perm_middle).append_right _
    exact q.nodup_iff.mp nd
  have out := (List.nodup_cons.mp nd').1
  refine ⟨fun c u q => ?_, by simp [A.len], fun j z q => ?_, fun g hg => (A.gh g hg).keep tk fun q hq e => ?_, by rw [s2]; exact nd⟩
  · rw [upd_ne (ne_of_none q h3)]
    exact A.same c u q
  · by_cases hj : i = j
    · subst hj
      rw [List.getElem?_set_self hil] at q
      cases q
      exact .inr ⟨_, h1, ok⟩
    · rw [List.getElem?_set_ne hj] at q
      rcases A.ok j z q with e | ⟨w, o1, o2⟩
      · exact .inl e
      · refine .inr ⟨w, o1, o2.keep tk fun q' hq' e => ?_⟩
        subst e
        exact out (List.mem_append.mpr (.inl (s3 j z _ (Ne.symm hj) q hq')))
  · subst e
    exact out (List.mem_append.mpr (.inr (List.mem_filterMap.mpr ⟨g, hg, hq⟩)))
/-- the own list in slot i is changed -/
theorem At.mut (A : At K B H σ ρ γ) {es : List PyData} {ws : List V} (hi : ρ[i]? = some (.ml p ds)) (hd : DqAll K H ws es) (hn : noLs es = true) : At K B (upd H p (.lst ws)) σ (ρ.set i (.ml p es)) γ := by
  obtain ⟨v, h1, h2, h3, h4, vs, h5, h6⟩ := (A.ok i _ hi).resolve_left (by intro z; cases z)
  exact A.mutG hi rfl rfl ⟨rfl, h3, hn, ws, upd_same, dps_tk (tk_upd h5 rfl) hd hn⟩
theorem At.mutO (A : At K B H σ ρ γ) {o o' : HO} (hi : ρ[i]? = some (.ob p o)) (hm : mutO o' = true) : At K B (upd H p o') σ (ρ.set i (.ob p o')) γ := by
  obtain ⟨v, h1, h2, h3, h4, h5⟩ := (A.ok i _ hi).resolve_left (by intro z; cases z)
  exact A.mutG hi rfl rfl ⟨rfl, h3, hm, upd_same⟩
/-- all that is there now is to stay: own lists are no longer changed -/
def frz : Sl → Sl
  | .ml _ ds => .im (.list ds)
  | .ob _ _ => .no
  | x => x
theorem At.rebase (A : At K B H σ ρ γ) : At K H H σ (ρ.map frz) [] := by
  refine ⟨Same.refl H, by simp [A.len], fun i x h => ?_, (fun g hg => nomatch hg), ?_⟩
  · rw [List.getElem?_map] at h
    cases hy : ρ[i]? with
    | none => rw [hy] at h; cases h
    | some y =>
      rw [hy] at h
      have e : frz y = x := Option.some.inj h
      subst e
      rcases A.ok i y hy with rfl | ⟨v, h1, h2⟩
      · exact .inl rfl
      · refine .inr ⟨v, h1, ?_⟩
        cases y with
        | no => trivial
        | im d =>
          rcases h2 with h2 | ⟨h2, _⟩
          · exact .inl (dp_same A.same h2)
          · exact .inl h2
        | ml p ds =>
          obtain ⟨h3, _, _, vs, h5, h6⟩ := h2
          subst h3
          exact .inl (.lst h5 h6)
        | va w => exact h2
        | fx w d =>
          refine ⟨h2.1, ?_⟩
          rcases h2.2 with h2 | ⟨h2, _⟩
          · exact .inl (dp_same A.same h2)
          · exact .inl h2
        | sc a ss => exact ⟨h2.1, sqL_same A.same h2.2⟩
        | ob p o => trivial
  · have : (ρ.map frz).filterMap Sl.adr = [] := by
      rw [List.filterMap_eq_nil_iff]
      intro x hx
      obtain ⟨y, _, rfl⟩ := List.mem_map.mp hx
      cases y <;> rfl
    rw [this]
    exact List.nodup_nil
/-- the value in slot i is remembered -/
theorem At.fix (A : At K B H σ ρ γ) (hi : ρ[i]? = some (.im d)) (hv : σ[i]? = some (some v)) : At K B H σ (ρ.set i (.fx v d)) γ := by
  have hil : i < ρ.length := by
    rcases Nat.lt_or_ge i ρ.length with h | h
    · exact h
    · rw [List.getElem?_eq_none h] at hi
      cases hi
  refine ⟨A.same, by simp [A.len], fun j y q => ?_, A.gh, A.nd.sublist ((fm_set rfl ρ i).append (List.Sublist.refl _))⟩
  by_cases hj : i = j
  · subst hj
    rw [List.getElem?_set_self hil] at q
    cases q
    obtain ⟨w, h1, h2⟩ := (A.ok i _ hi).resolve_left (by intro z; cases z)
    rw [hv] at h1
    cases h1
    exact .inr ⟨v, hv, rfl, h2⟩
  · rw [List.getElem?_set_ne hj] at q
    exact A.ok j y q
theorem At.valF {w : V} (A : At K B H σ ρ γ) (hi : ρ[i]? = some (.fx w d)) : σ[i]? = some (some w) := by
  obtain ⟨v, h1, h2, _⟩ := (A.ok i _ hi).resolve_left (by intro z; cases z)
  rw [← h2]
  exact h1
/-- where a def starts: its arguments -/
theorem At.start {vs : List V} {N : List Str} (h : DqAll K H vs ds) (hl : vs.length ≤ N.length) : At K H H (L2.start N vs) (ds.map Sl.im ++ List.replicate (N.length - ds.length) Sl.no) [] := by
  have e := h.length
  refine ⟨Same.refl H, by simp [L2.start, e], fun i x q => ?_, (fun g hg => nomatch hg), ?_⟩
  · by_cases hi : i < ds.length
    · rw [List.getElem?_append_left (by simpa using hi), List.getElem?_map] at q
      cases hd : ds[i]? with
      | none => rw [hd] at q; cases q
      | some d =>
        rw [hd] at q
        cases q
        obtain ⟨v, h1, h2⟩ := h.get' hd
        refine .inr ⟨v, ?_, .inl h2⟩
        unfold L2.start
        rw [List.getElem?_append_left (by rw [List.length_map, e]; exact hi), List.getElem?_map, h1]
        rfl
    · rw [List.getElem?_append_right (by simpa using hi)] at q
      have := List.mem_of_getElem? q
      exact .inl (List.eq_of_mem_replicate this)
  · have : (ds.map Sl.im ++ List.replicate (N.length - ds.length) Sl.no).filterMap Sl.adr = [] := by
      rw [List.filterMap_eq_nil_iff]
      intro x hx
      rcases List.mem_append.mp hx with hx | hx
      · obtain ⟨d, _, rfl⟩ := List.mem_map.mp hx
        rfl
      · rw [List.eq_of_mem_replicate hx]
        rfl
    rw [this]
    exact List.nodup_nil
end
end TH

namespace TH
open PySem L2
/-! ## statements -/
def GO (X : Cx) (sts : List Stmt) (D : Ends) (σ : L2.St) (H : Hp) : Prop := ∀ (pins : List (Addr × Obj)) (s : Shared), Inv X pins σ H s → wpAny (model X.prog X.w) X.A (execs sts X.env) (SP X pins D) X.xe s
theorem pss_any {X : Cx} {sts : List Stmt} : PSs X sts (fun D σ H => GO X sts D σ H) := ⟨fun pins s σ H D I h => h pins s I⟩
section
variable {X : Cx} {st : Stmt} {rest sts : List Stmt} {D : Ends} {σ : L2.St} {B H : Hp} {ρ : List Sl} {γ : List (V × Sl)} {e c tg iter : Expr} {body els : List Stmt} {pos py : Pos} {d : PyData} {i : Nat} {x : Str} {ds : List PyData}
theorem go_cons {t : TS} (h1 : PS X st t) (h : t { D with nx := fun σ H => GO X rest D σ H } σ H) : GO X (st :: rest) D σ H := fun pins s I => (pss_cons h1 pss_any).run pins s σ H D I h
theorem go_nil (h : D.nx σ H) : GO X [] D σ H := fun pins s I => pss_nil.run pins s σ H D I h
theorem go_pass (h : GO X rest D σ H) : GO X (.Pass pos :: rest) D σ H := go_cons ps_pass h
theorem go_brk (h : D.bk σ H) : GO X (.Break pos :: rest) D σ H := go_cons ps_break h
theorem go_cnt (h : D.ct σ H) : GO X (.Continue pos :: rest) D σ H := go_cons ps_continue h
theorem GO.imp {D' : Ends} (h : GO X sts D σ H) (h1 : ∀ σ H, D.nx σ H → D'.nx σ H) (h2 : ∀ v H, D.rt v H → D'.rt v H) (h3 : ∀ σ H, D.bk σ H → D'.bk σ H) (h4 : ∀ σ H, D.ct σ H → D'.ct σ H) : GO X sts D' σ H := fun pins s I => thn (h pins s I) fun f s' q => by
  cases f with
  | next => obtain ⟨σ', H', I', q⟩ := q; exact ⟨σ', H', I', h1 _ _ q⟩
  | brk => obtain ⟨σ', H', I', q⟩ := q; exact ⟨σ', H', I', h3 _ _ q⟩
  | cont => obtain ⟨σ', H', I', q⟩ := q; exact ⟨σ', H', I', h4 _ _ q⟩
  | ret u => obtain ⟨v, σ', H', I', rv, q⟩ := q; exact ⟨v, σ', H', I', rv, h2 _ _ q⟩
/-! ### return -/
theorem go_ret (A : At X.K B H σ ρ γ) (h : EV X e (ρ.map view) d) (q : ∀ v H', Same B H' → Dq X.K H' v d → D.rt v H') : GO X (.Return (some e) pos :: rest) D σ H :=
  go_cons (ps_ret pe_any) (h.use A.envD fun v H' e1 dv => q v H' (A.same.trans e1) dv)
theorem go_retL (A : At X.K B H σ ρ γ) (h : EVL X e (ρ.map view) ds) (q : ∀ p vs H', B p = none → Same B H' → H' p = some (.lst vs) → DqAll X.K H' vs ds → D.rt (.ref p) H') : GO X (.Return (some e) pos :: rest) D σ H :=
  go_cons (ps_ret pe_any) (h.use A.envD fun p vs H' e0 e1 e2 dv => q p vs H' (A.same.free e0) (A.same.trans e1) e2 dv)
/-- a def's own list is handed back -/
theorem go_retO {p : Addr} {n : Str} {pn : Pos} (A : At X.K B H σ ρ γ) (hi : ρ[i]? = some (.ml p ds)) (hN : X.N[i]? = some n) (hv : Vis X.env.scope n) (q : ∀ vs, B p = none → Same B H → H p = some (.lst vs) → DqAll X.K H vs ds → D.rt (.ref p) H)
    (hd : (n == ("__debug__" : Str)) = false := by decide) (hcd : (n == ("__classdict__" : Str)) = false := by decide) : GO X (.Return (some (.Name n pn)) pos :: rest) D σ H := by
  obtain ⟨v, h1, h2, h3, h4, vs, h5, h6⟩ := (A.ok i _ hi).resolve_left (by intro z; cases z)
  subst h2
  exact go_cons (ps_ret (pe_var hN hv hd hcd)) ⟨_, h1, q vs h3 A.same h5 h6⟩
/-! ### name = .. -/
theorem go_set (A : At X.K B H σ ρ γ) (i : Nat) (hN : X.N.Nodup) (hi : X.N[i]? = some x) (hx : Loc X.env.scope x) (h : EV X e (ρ.map view) d) (hn : noL d = true) (q : ∀ v H', At X.K B H' (σ.set i (some v)) (ρ.set i (.im d)) γ → GO X rest D (σ.set i (some v)) H')
    (hs : swapsWith e (some (.Name x py)) pos.line X.env = pure false := by rfl) (hf : X.fn x = true ∨ X.env.scope.names.lookup x = some .local := by first | exact .inl rfl | exact .inr rfl | assumption) : GO X (.Assign [.Name x py] e pos :: rest) D σ H :=
  go_cons (ps_set hN hi hx pe_any hs hf) (h.use A.envD fun v H' e1 dv => q v H' ((A.to e1).setI i dv hn))
theorem go_setL (A : At X.K B H σ ρ γ) (i : Nat) (hN : X.N.Nodup) (hi : X.N[i]? = some x) (hx : Loc X.env.scope x) (h : EVL X e (ρ.map view) ds) (hn : noLs ds = true) (q : ∀ p H', At X.K B H' (σ.set i (some (.ref p))) (ρ.set i (.ml p ds)) γ → GO X rest D (σ.set i (some (.ref p))) H')
    (hs : swapsWith e (some (.Name x py)) pos.line X.env = pure false := by rfl) (hf : X.fn x = true ∨ X.env.scope.names.lookup x = some .local := by first | exact .inl rfl | exact .inr rfl | assumption) : GO X (.Assign [.Name x py] e pos :: rest) D σ H :=
  go_cons (ps_set hN hi hx pe_any hs hf) (h.use A.envD fun p vs H' e0 e1 e2 dv => q p H' (A.setL i e0 e1 e2 dv hn))
/-- name = [.. for ..], the name a local -/
theorem go_setLc {elt : Expr} {ifs : List Expr} {scope : Scope} {own : List (Str × Nat)} {pos' : Pos} {g : TG} {u : PyData → List (Option PyData) → List (Option PyData)} {sl : List Nat} {pt : PyData → Bool} {f : PyData → PyData}
    (A : At X.K B H σ ρ γ) (i : Nat) (hc : X.calm = true) (hN : X.N.Nodup) (hi : X.N[i]? = some x) (hx : X.env.scope.names.lookup x = some .local)
    (hsw : swapsWith (.ListComp elt [⟨tg, iter, ifs, 0⟩] scope pos') (some (.Name x py)) pos.line X.env = pure true) (hit : ITR Same X tg iter (ρ.map view) ds) (ok : BlkOk X.N X.env.scope scope own)
    (hg : Blk X scope fun Y => PG Y tg g) (hr : ∀ d ∈ ds, RdG X.K g d (u d) sl) (hsl : ∀ i ∈ sl, i ∈ own.map (·.2))
    (ht : ∀ d ∈ ds, Blk X scope fun Y => EVTs Y ifs (u d (wipeR (ρ.map view) (own.map (·.2)))) (pt d)) (he : ∀ d ∈ ds, pt d = true → Blk X scope fun Y => EV Y elt (u d (wipeR (ρ.map view) (own.map (·.2)))) (f d)) (hf : ∀ d ∈ ds, pt d = true → noL (f d) = true) (hz : ds.length ≤ 100000)
    (q : ∀ p H', At X.K B H' (σ.set i (some (.ref p))) (ρ.set i (.ml p ((ds.filter pt).map f))) γ → GO X rest D (σ.set i (some (.ref p))) H')
    (hs : ∀ x, foldedSetIterable iter X.env x = pure x := by intro _; rfl) : GO X (.Assign [.Name x py] (.ListComp elt [⟨tg, iter, ifs, 0⟩] scope pos') pos :: rest) D σ H :=
  go_cons (ps_setLc hc hN hi hx hsw pi_any ok hg (fun s H C cl fp => ⟨fun pins s1 σ H1 Q I h => h s H C cl fp pins s1 I⟩) (fun s H C cl fp => ⟨fun pins s1 σ H1 Q I h => h s H C cl fp pins s1 I⟩) hs)
    (lc_read hit hr hsl ht he hf hz A.envD fun v H' ⟨p, vs, ev, e0, e1, e2, dv⟩ => by
      subst ev
      refine q p H' (A.setL i e0 e1 e2 dv (noLs_iff.mpr fun z hz => ?_))
      obtain ⟨w, hw, rfl⟩ := List.mem_map.mp hz
      obtain ⟨h1, h2⟩ := List.mem_filter.mp hw
      exact hf w h1 h2)
theorem go_setLc2 {elt tg1 iter1 : Expr} {ifs ifs1 : List Expr} {scope : Scope} {own : List (Str × Nat)} {vs1 : List Nat} {pos' : Pos} {g g1 : TG} {es : PyData → List PyData} {u u1 : PyData → List (Option PyData) → List (Option PyData)} {sl sl1 : List Nat} {pt : PyData → Bool} {pt1 : PyData → PyData → Bool} {f : PyData → PyData → PyData} {rb : List (Option PyData)}
    (A : At X.K B H σ ρ γ) (i : Nat) (hc : X.calm = true) (hN : X.N.Nodup) (hi : X.N[i]? = some x) (hx : X.env.scope.names.lookup x = some .local)
    (hsw : swapsWith (.ListComp elt [⟨tg, iter, ifs, 0⟩, ⟨tg1, iter1, ifs1, 0⟩] scope pos') (some (.Name x py)) pos.line X.env = pure true) (hit : ITR Same X tg iter (ρ.map view) ds) (ok : BlkOk X.N X.env.scope scope own) (hv : ∀ i ∈ vs1, i ∈ own.map (·.2))
    (hg : Blk X scope fun Y => PG Y tg g) (hg1 : Blk X scope fun Y => PG Y tg1 g1) (hsub : Sub rb (ρ.map view)) (hr : ∀ d ∈ ds, RdG X.K g d (u d) sl) (hsl : ∀ i ∈ sl, i ∈ own.map (·.2)) (hr1 : ∀ d ∈ ds, ∀ e ∈ es d, RdG X.K g1 e (u1 e) sl1) (hsl1 : ∀ i ∈ sl1, i ∈ vs1) (hen : ∀ d ∈ ds, envN (u d (wipeR rb (own.map (·.2)))) = true)
    (ht : ∀ d ∈ ds, Blk X scope fun Y => EVTs Y ifs (u d (wipeR rb (own.map (·.2)))) (pt d))
    (hi1 : ∀ d ∈ ds, pt d = true → Blk X scope fun Y => ITR Tk Y tg1 iter1 (u d (wipeR rb (own.map (·.2)))) (es d))
    (ht1 : ∀ d ∈ ds, pt d = true → ∀ e ∈ es d, Blk X scope fun Y => EVTs Y ifs1 (u1 e (wipeR (u d (wipeR rb (own.map (·.2)))) vs1)) (pt1 d e))
    (he : ∀ d ∈ ds, pt d = true → ∀ e ∈ es d, pt1 d e = true → Blk X scope fun Y => EV Y elt (u1 e (wipeR (u d (wipeR rb (own.map (·.2)))) vs1)) (f d e)) (hf : ∀ d ∈ ds, pt d = true → ∀ e ∈ es d, pt1 d e = true → noL (f d e) = true)
    (hz : ∀ i, ((ds.take i).flatMap (row2 es pt pt1 f)).length ≤ 50000) (hz1 : ∀ d ∈ ds, (es d).length ≤ 40000)
    (q : ∀ p H', At X.K B H' (σ.set i (some (.ref p))) (ρ.set i (.ml p (ds.flatMap (row2 es pt pt1 f)))) γ → GO X rest D (σ.set i (some (.ref p))) H')
    (hs : ∀ x, foldedSetIterable iter X.env x = pure x := by intro _; rfl) (hs1 : ∀ env x, foldedSetIterable iter1 env x = pure x := by intro _ _; rfl) : GO X (.Assign [.Name x py] (.ListComp elt [⟨tg, iter, ifs, 0⟩, ⟨tg1, iter1, ifs1, 0⟩] scope pos') pos :: rest) D σ H :=
  go_cons (ps_setLc2 hc hN hi hx hsw pi_any ok hv hg (fun s H C cl fp => ⟨fun pins s1 σ H1 Q I h => h s H C cl fp pins s1 I⟩) (fun s H C cl fp => ⟨fun pins s1 σ H1 R I h => h s H C cl fp pins s1 I⟩) hg1 (fun s H C cl fp => ⟨fun pins s1 σ H1 Q I h => h s H C cl fp pins s1 I⟩) (fun s H C cl fp => ⟨fun pins s1 σ H1 Q I h => h s H C cl fp pins s1 I⟩) hs hs1)
    (lc2_read hit hsub hr hsl hr1 hsl1 hen ht hi1 ht1 he hf hz hz1 A.envD fun v H' ⟨p, vs, ev, e0, e1, e2, dv⟩ => by
      subst ev
      refine q p H' (A.setL i e0 e1 e2 dv (noLs_iff.mpr fun z hz => ?_))
      obtain ⟨d, hd, hw⟩ := List.mem_flatMap.mp hz
      unfold row2 at hw
      by_cases hp : pt d = true
      · rw [if_pos hp] at hw
        obtain ⟨e, he1, rfl⟩ := List.mem_map.mp hw
        obtain ⟨h1, h2⟩ := List.mem_filter.mp he1
        exact hf d hd hp e h1 h2
      · rw [if_neg hp] at hw
        cases hw)
/-! ### targets of several names -/
def RdA (K : PySem.W.Frag) (g : TG) (d : PyData) (u : List Sl → List Sl) : Prop := ∀ (v : V) (σ : L2.St) (B H : Hp) (ρ : List Sl) (γ : List (V × Sl)) (Q : L2.St → Hp → Prop), Dq K H v d → noL d = true → At K B H σ ρ γ → (∀ σ', At K B H σ' (u ρ) γ → Q σ' H) → g v σ H Q
theorem ra_name {K : PySem.W.Frag} (i : Nat) (d : PyData) : RdA K (gName i) d (fun ρ => ρ.set i (.im d)) := fun v σ B H ρ γ Q dv hn A q => q _ (A.setI i dv hn)
theorem noL_two {d e : PyData} (h : noL (.tuple [d, e]) = true) : noL d = true ∧ noL e = true := by simpa [noL, noLs] using h
theorem noL_three {d e f : PyData} (h : noL (.tuple [d, e, f]) = true) : noL d = true ∧ noL e = true ∧ noL f = true := by simpa [noL, noLs] using h
theorem ra_two {K : PySem.W.Frag} (i j : Nat) (d e : PyData) : RdA K (gTup K 2 (gCons (gName i) (gCons (gName j) gNil))) (.tuple [d, e]) (fun ρ => (ρ.set i (.im d)).set j (.im e)) := fun v σ B H ρ γ Q dv hn A q => by
  obtain ⟨n1, n2⟩ := noL_two hn
  cases dv with
  | tup hs ha =>
    obtain ⟨x, y, rfl, hx, hy⟩ := dq2 ha
    exact ⟨_, _, rfl, hs, rfl, x, [y], rfl, y, [], rfl, rfl, q _ ((A.setI i hx n1).setI j hy n2)⟩
theorem ra_three {K : PySem.W.Frag} (i j k : Nat) (d e f : PyData) : RdA K (gTup K 3 (gCons (gName i) (gCons (gName j) (gCons (gName k) gNil)))) (.tuple [d, e, f]) (fun ρ => ((ρ.set i (.im d)).set j (.im e)).set k (.im f)) := fun v σ B H ρ γ Q dv hn A q => by
  obtain ⟨n1, n2, n3⟩ := noL_three hn
  cases dv with
  | tup hs ha =>
    cases ha with
    | cons hx ha =>
      obtain ⟨y, z, rfl, hy, hz⟩ := dq2 ha
      exact ⟨_, _, rfl, hs, rfl, _, _, rfl, y, _, rfl, z, [], rfl, rfl, q _ (((A.setI i hx n1).setI j hy n2).setI k hz n3)⟩
/-- target = e -/
theorem go_asg {g : TG} {u : List Sl → List Sl} (A : At X.K B H σ ρ γ) (hg : PG X tg g) (hr : RdA X.K g d u) (h : EV X e (ρ.map view) d) (hn : noL d = true) (q : ∀ σ' H', At X.K B H' σ' (u ρ) γ → GO X rest D σ' H')
    (hs : swapsWithSole [tg] e pos.line X.env = pure false := by rfl) (hw : swappedStores [tg] e X.env = pure none := by rfl) (h1 : (assignEach [tg] X.env).map (·.2) = [assign tg X.env] := by rfl) : GO X (.Assign [tg] e pos :: rest) D σ H :=
  go_cons (ps_asg pe_any hg hs hw h1) (h.use A.envD fun v H' e1 dv => hr v σ B H' ρ γ _ dv hn (A.to e1) fun σ' A' => q σ' H' A')
/-- a, b = x, y (plain locals) -/
theorem go_par {i j : Nat} {x y : Str} {a b : Expr} {px py pt : Pos} {kt k2 pt2} {d e : PyData} (A : At X.K B H σ ρ γ) (hc : X.calm = true) (hN : X.N.Nodup) (hi : X.N[i]? = some x) (hj : X.N[j]? = some y) (hij : i ≠ j)
    (hx : X.env.scope.names.lookup x = some .local) (hy : X.env.scope.names.lookup y = some .local) (h : EVS X [a, b] (ρ.map view) [d, e]) (hn : noL d = true) (hn2 : noL e = true)
    (hw : swappedStores [.Tuple [.Name x px, .Name y py] kt pt] (.Tuple [a, b] k2 pt2) X.env = pure (some [x, y]))
    (q : ∀ σ' H', At X.K B H' σ' ((ρ.set i (.im d)).set j (.im e)) γ → GO X rest D σ' H')
    (hs : swapsWithSole [.Tuple [.Name x px, .Name y py] kt pt] (.Tuple [a, b] k2 pt2) pos.line X.env = pure false := by rfl) : GO X (.Assign [.Tuple [.Name x px, .Name y py] kt pt] (.Tuple [a, b] k2 pt2) pos :: rest) D σ H :=
  go_cons (ps_par hc hN hi hj hij hx hy pa_any hw hs) (h.use A.envD fun vs H' e1 dv => by
    obtain ⟨v, w, rfl, hv, hw'⟩ := dq2 dv
    exact ⟨v, w, rfl, q _ H' (((A.to e1).setI i hv hn).setI j hw' hn2)⟩)
/-! ### if -/
theorem go_if {b : Bool} (A : At X.K B H σ ρ γ) (h : EVT X c (ρ.map view) b) (h1 : b = true → ∀ H', At X.K B H' σ ρ γ → GO X body { D with nx := fun σ H => GO X rest D σ H } σ H') (h2 : b = false → ∀ H', At X.K B H' σ ρ γ → GO X els { D with nx := fun σ H => GO X rest D σ H } σ H') : GO X (.If c body els pos :: rest) D σ H :=
  go_cons (ps_if pt_any pss_any pss_any) (h.use A.envD fun H' e => by
    cases b with
    | true => exact iteT (h1 rfl H' (A.to e))
    | false => exact iteF (h2 rfl H' (A.to e)))
/-- a test that fails, without an else -/
theorem go_ifF (A : At X.K B H σ ρ γ) (h : EVT X c (ρ.map view) false) (h2 : ∀ H', At X.K B H' σ ρ γ → GO X rest D σ H') : GO X (.If c body [] pos :: rest) D σ H :=
  go_if A h (fun z => nomatch z) fun _ H' A' => go_nil (h2 H' A')
theorem go_ifT (A : At X.K B H σ ρ γ) (h : EVT X c (ρ.map view) true) (h1 : ∀ H', At X.K B H' σ ρ γ → GO X body { D with nx := fun σ H => GO X rest D σ H } σ H') : GO X (.If c body els pos :: rest) D σ H :=
  go_if A h (fun _ => h1) fun z => nomatch z
/-- an expression for its call alone -/
theorem go_expr (A : At X.K B H σ ρ γ) (h : EV X e (ρ.map view) d) (q : ∀ H', At X.K B H' σ ρ γ → GO X rest D σ H') (hs : swapsWith e none pos.line X.env = pure false := by rfl) : GO X (.Expr e pos :: rest) D σ H :=
  go_cons (ps_expr pe_any hs) (h.use A.envD fun v H' e1 dv => q H' (A.to e1))
/-! ### lists of one's own -/
theorem go_append {p : Addr} {n : Str} {pn pa pc : Pos} (A : At X.K B H σ ρ γ) (i : Nat) (hi : ρ[i]? = some (.ml p ds)) (hN : X.N[i]? = some n) (hv : Vis X.env.scope n) (h : EV X e (ρ.map view) d) (hn : noL d = true) (hz : ds.length < 100000)
    (q : ∀ H', At X.K B H' σ (ρ.set i (.ml p (ds ++ [d]))) γ → GO X rest D σ H')
    (hbase : attributeBase (.Name n pn) "append" X.env (eval (.Name n pn) X.env) = eval (.Name n pn) X.env := by rfl)
    (hfew : ((backTo pc (starEach [e] X.env)).all (fun x => !x.1) && (backToKw pc (keywordEach [] X.env)).all (fun x => x.1.isSome) && decide ([e].length + ([] : List Keyword).length + (if ([] : List Keyword).isEmpty then 0 else 1) < 30)) = true := by rfl)
    (hline : (pa.endLine == pc.line) = true := by rfl) (hs : starEach [e] X.env = (false, eval e X.env) :: starEach [] X.env := by rfl) (hplain : (backTo pc (starEach [] X.env)).any (·.1) = false := by rfl)
    (hsw : swapsWith (.Call (.Attribute (.Name n pn) "append" pa) [e] [] pc) none pos.line X.env = pure false := by rfl) (hd : (n == ("__debug__" : Str)) = false := by decide) (hcd : (n == ("__classdict__" : Str)) = false := by decide) :
    GO X (.Expr (.Call (.Attribute (.Name n pn) "append" pa) [e] [] pc) pos :: rest) D σ H := by
  obtain ⟨v, h1, h2, h3, h4, vs, h5, h6⟩ := (A.ok i _ hi).resolve_left (by intro z; cases z)
  subst h2
  refine go_cons (ps_expr (pe_bm PySem.F.plainAttrs_list PySem.F.slot_list_append PySem.F.type_list_append mt_append (pe_var hN hv hd hcd) (pa_cons pe_any pa_nil hs) hbase hfew hline hs hplain) hsw) ?_
  refine ⟨_, h1, .inl ⟨rfl, _, .of h5⟩, h.use A.envD fun w H' e1 dw => ?_⟩
  refine ⟨p, vs, w, rfl, rfl, e1 _ _ h5, Nat.lt_of_lt_of_le (by rw [h6.length]; exact hz) (by decide), ?_⟩
  refine q _ ((A.to e1).mut hi ((dps_same e1 h6).append (.cons dw .nil)) (noLs_iff.mpr fun z hz => ?_))
  rcases List.mem_append.mp hz with hz | hz
  · exact noLs_iff.mp h4 z hz
  · rw [List.mem_singleton] at hz
    rw [hz]
    exact hn
/-- xs[k] = e -/
theorem go_setIx {p : Addr} {n : Str} {a : Expr} {pn pt : Pos} {k : Int} {j : Nat} (A : At X.K B H σ ρ γ) (i : Nat) (hi : ρ[i]? = some (.ml p ds)) (hN : X.N[i]? = some n) (hv : Vis X.env.scope n) (h : EV X e (ρ.map view) d) (hn : noL d = true) (ha : EV X a (ρ.map view) (.int k)) (hk : ixN ds.length k = some j)
    (q : ∀ H', At X.K B H' σ (ρ.set i (.ml p (ds.set j d))) γ → GO X rest D σ H')
    (hs : swapsWithSole [.Subscript (.Name n pn) a pt] e pos.line X.env = pure false := by rfl) (hw : swappedStores [.Subscript (.Name n pn) a pt] e X.env = pure none := by rfl) (h1 : (assignEach [.Subscript (.Name n pn) a pt] X.env).map (·.2) = [assign (.Subscript (.Name n pn) a pt) X.env] := by rfl)
    (hst : ∀ v, assign (.Subscript (.Name n pn) a pt) X.env v = (do
      let ov ← holding [v] (eval (.Name n pn) X.env)
      let iv ← holding [v, ov] (eval a X.env)
      standAt pt
      holding [v, ov, iv] (setItem ov iv v)
      release [v, ov, iv] []) := by intro _; rfl) (hd : (n == ("__debug__" : Str)) = false := by decide) (hcd : (n == ("__classdict__" : Str)) = false := by decide) :
    GO X (.Assign [.Subscript (.Name n pn) a pt] e pos :: rest) D σ H := by
  obtain ⟨v, h1', h2, h3, h4, vs, h5, h6⟩ := (A.ok i _ hi).resolve_left (by intro z; cases z)
  subst h2
  refine go_cons (ps_asg pe_any (pg_sub (pe_var hN hv hd hcd) pe_any set_list hst) hs hw h1) ?_
  refine h.use A.envD fun w H1 e1 dw => ⟨_, h1', ha.use (A.to e1).envD fun y H2 e2 dy => ?_⟩
  cases dy
  refine ⟨p, vs, k, j, rfl, rfl, e2 _ _ (e1 _ _ h5), by rw [h6.length]; exact hk, ?_⟩
  refine q _ ((A.to (e1.trans e2)).mut hi ((dps_same (e1.trans e2) h6).set (dp_same e2 dw) j) (noLs_iff.mpr fun z hz => ?_))
  rcases List.mem_or_eq_of_mem_set hz with hz | hz
  · exact noLs_iff.mp h4 z hz
  · rw [hz]
    exact hn
end
end TH

namespace TH
open PySem L2 PyProof.Rows
/-! ## loops -/
/-- the slots are as Iv says -/
def NX (K : PySem.W.Frag) (B : Hp) (γ : List (V × Sl)) (Iv : List Sl → Prop) : L2.St → Hp → Prop := fun σ H => ∃ ρ, Iv ρ ∧ At K B H σ ρ γ
structure WkG (K : PySem.W.Frag) (J : It) (G : Hp → Prop) (ds : List PyData) : Prop where
  go : ∀ i H, G H → i < ds.length → J.go i H
  stop : ∀ H, G H → J.stop ds.length H
  yld : ∀ i H x H', G H → i < ds.length → J.yld i H x H' → Same H H' ∧ ∃ d, ds[i]? = some d ∧ Dq K H' x d
section
variable {X : Cx} {rest : List Stmt} {D : Ends} {σ : L2.St} {B H : Hp} {ρ : List Sl} {γ : List (V × Sl)} {c tg iter a : Expr} {body els : List Stmt} {pos p1 : Pos} {d : PyData} {x : Str} {ds : List PyData} {g : TG} {u : PyData → List Sl → List Sl} {Iv : Nat → List Sl → Prop}
theorem for_core {J : It} {G : Hp → Prop} {D1 : Ends} {γ' : List (V × Sl)} (w : WkG X.K J G ds) (hn : noLs ds = true) (A1 : At X.K B H σ ρ γ') (h0 : Iv 0 ρ) (hG : ∀ i ρ' σ' H', Iv i ρ' → At X.K B H' σ' ρ' γ' → G H') (hr : ∀ d ∈ ds, RdA X.K g d (u d))
    (step : ∀ i d ρ' σ' H', ds[i]? = some d → Iv i ρ' → At X.K B H' σ' (u d ρ') γ' → GO X body { D1 with nx := NX X.K B γ' (Iv (i + 1)), ct := NX X.K B γ' (Iv (i + 1)), bk := D1.nx } σ' H') (done : ∀ ρ' σ' H', Iv ds.length ρ' → At X.K B H' σ' ρ' γ' → D1.nx σ' H') :
    ∃ W : Nat → Nat → L2.St → Hp → Prop, (∃ m, W 0 m σ H) ∧ ∀ i m σ H, W i m σ H →
      (J.stop i H ∧ D1.nx σ H) ∨ (J.go i H ∧ ∃ N : L2.St → Hp → Prop, (∀ σ' H', N σ' H' → ∃ m', m' < m ∧ W (i + 1) m' σ' H') ∧ ∀ x H', J.yld i H x H' → g x σ H' fun σ2 H2 => GO X body { D1 with nx := N, ct := N, bk := D1.nx } σ2 H2) := by
  refine ⟨fun i m σ H => m = ds.length - i ∧ i ≤ ds.length ∧ NX X.K B γ' (Iv i) σ H, ⟨ds.length, by simp, Nat.zero_le _, ρ, h0, A1⟩, ?_⟩
  rintro i m σ2 H2 ⟨rfl, hi, ρ2, v2, A2⟩
  have gd := hG i ρ2 σ2 H2 v2 A2
  by_cases hlt : i < ds.length
  · refine .inr ⟨w.go i H2 gd hlt, NX X.K B γ' (Iv (i + 1)), fun σ' H' h => ⟨_, by omega, rfl, hlt, h⟩, fun y H3 hy => ?_⟩
    obtain ⟨e3, d, hd, dy⟩ := w.yld i H2 y H3 gd hlt hy
    have hm : d ∈ ds := List.mem_of_getElem? hd
    exact hr d hm y σ2 B H3 ρ2 γ' _ dy (noLs_iff.mp hn d hm) (A2.to e3) fun σ' A' => step i d ρ2 σ' H3 hd v2 A'
  · have e : i = ds.length := by omega
    subst e
    exact .inl ⟨w.stop H2 gd, done ρ2 σ2 H2 v2 A2⟩
/-- for target in a tuple -/
theorem go_for (A : At X.K B H σ ρ γ) (hp : PassesOwn (model X.prog X.w) X.A X.env X.xe) (hc : X.calm = true) (src : EV X iter (ρ.map view) (.tuple ds)) (hn : noLs ds = true) (hg : PG X tg g) (hr : ∀ d ∈ ds, RdA X.K g d (u d)) (h0 : Iv 0 ρ)
    (step : ∀ γ' i d ρ' σ' H', ds[i]? = some d → Iv i ρ' → At X.K B H' σ' (u d ρ') γ' → GO X body { D with nx := NX X.K B γ' (Iv (i + 1)), ct := NX X.K B γ' (Iv (i + 1)), bk := fun σ H => GO X rest D σ H } σ' H') (done : ∀ ρ' σ' H', Iv ds.length ρ' → At X.K B H' σ' ρ' γ → GO X rest D σ' H')
    (hs : ∀ x, foldedSetIterable iter X.env x = pure x := by intro _; rfl) : GO X (.For tg iter body [] pos :: rest) D σ H := by
  refine go_cons (ps_for hp hc (pi_tup pe_any) hg pss_any hs) (src.use A.envD fun v H1 e1 dv => ?_)
  have A1 : At X.K B H1 σ ρ ((v, .im (.tuple ds)) :: γ) := (A.to e1).addG (.inr ⟨dv, by simpa [noL] using hn⟩) rfl
  cases dv with
  | @tup a0 xs0 _ hq ha =>
    refine ⟨_, rfl, ⟨_, hq⟩, for_core (G := fun H => Dq X.K H (.ref a0) (.tuple ds)) ⟨fun i H2 gd hi => ?_, fun H2 gd => ?_, fun i H2 y H3 gd hi hy => ?_⟩ hn A1 h0 (fun i ρ' σ' H' _ A' => ?_) hr (fun i d ρ' σ' H' hd hv A' => step _ i d ρ' σ' H' hd hv A') fun ρ' σ' H' hv A' => done ρ' σ' H' hv A'.unG⟩
    · cases gd with
      | tup q1 q2 =>
        rw [← q2.length] at hi
        exact walk_tup.goes i H2 hi q1
    · cases gd with
      | tup q1 q2 =>
        rw [← q2.length]
        exact walk_tup.stops H2 q1
    · cases gd with
      | tup q1 q2 =>
        rw [← q2.length] at hi
        obtain ⟨h1, h2⟩ := walk_tup.yields i H2 y H3 hi q1 hy
        subst h1
        obtain ⟨d, h3, h4⟩ := q2.get h2
        exact ⟨Same.refl _, d, h3, h4⟩
    · rcases A'.gh _ List.mem_cons_self with h | ⟨h, _⟩
      · exact dp_same A'.same h
      · exact h
/-- for target in a new list -/
theorem go_forL (A : At X.K B H σ ρ γ) (hp : PassesOwn (model X.prog X.w) X.A X.env X.xe) (hc : X.calm = true) (src : EVL X iter (ρ.map view) ds) (hn : noLs ds = true) (hg : PG X tg g) (hr : ∀ d ∈ ds, RdA X.K g d (u d)) (h0 : Iv 0 ρ)
    (step : ∀ γ' i d ρ' σ' H', ds[i]? = some d → Iv i ρ' → At X.K B H' σ' (u d ρ') γ' → GO X body { D with nx := NX X.K B γ' (Iv (i + 1)), ct := NX X.K B γ' (Iv (i + 1)), bk := fun σ H => GO X rest D σ H } σ' H') (done : ∀ ρ' σ' H', Iv ds.length ρ' → At X.K B H' σ' ρ' γ → GO X rest D σ' H')
    (hs : ∀ x, foldedSetIterable iter X.env x = pure x := by intro _; rfl) : GO X (.For tg iter body [] pos :: rest) D σ H := by
  refine go_cons (ps_for hp hc (pi_list pe_any) hg pss_any hs) (src.use A.envD fun p vs H1 e0 e1 e2 dv => ?_)
  have A1 : At X.K B H1 σ ρ ((.ref p, .ml p ds) :: γ) := A.addL e0 e1 e2 dv hn
  refine ⟨_, rfl, ⟨_, .of e2⟩, for_core (G := fun H => ∃ vs, H p = some (.lst vs) ∧ DqAll X.K H vs ds) ⟨fun i H2 gd hi => ?_, fun H2 gd => ?_, fun i H2 y H3 gd hi hy => ?_⟩ hn A1 h0 (fun i ρ' σ' H' _ A' => ?_) hr (fun i d ρ' σ' H' hd hv A' => step _ i d ρ' σ' H' hd hv A') fun ρ' σ' H' hv A' => done ρ' σ' H' hv A'.unG⟩
  · obtain ⟨ws, q1, q2⟩ := gd
    rw [← q2.length] at hi
    exact walk_list.goes i H2 hi (.of q1)
  · obtain ⟨ws, q1, q2⟩ := gd
    rw [← q2.length]
    exact walk_list.stops H2 (.of q1)
  · obtain ⟨ws, q1, q2⟩ := gd
    rw [← q2.length] at hi
    obtain ⟨h1, h2⟩ := walk_list.yields i H2 y H3 hi (.of q1) hy
    subst h1
    obtain ⟨d, h3, h4⟩ := q2.get h2
    exact ⟨Same.refl _, d, h3, h4⟩
  · obtain ⟨_, _, _, ws, h4, h5⟩ := A'.gh _ List.mem_cons_self
    exact ⟨ws, h4, h5⟩
/-- for target in a list of one's own, which the body leaves as it is -/
theorem go_forO {n : Str} {pn : Pos} {p : Addr} {j : Nat} (A : At X.K B H σ ρ γ) (hp : PassesOwn (model X.prog X.w) X.A X.env X.xe) (hc : X.calm = true) (hj : ρ[j]? = some (.ml p ds)) (hN : X.N[j]? = some n) (hv : Vis X.env.scope n) (hg : PG X tg g) (hr : ∀ d ∈ ds, RdA X.K g d (u d)) (h0 : Iv 0 ρ)
    (hk : ∀ i ρ', Iv i ρ' → ρ'[j]? = some (.ml p ds))
    (step : ∀ i d ρ' σ' H', ds[i]? = some d → Iv i ρ' → At X.K B H' σ' (u d ρ') γ → GO X body { D with nx := NX X.K B γ (Iv (i + 1)), ct := NX X.K B γ (Iv (i + 1)), bk := fun σ H => GO X rest D σ H } σ' H') (done : ∀ ρ' σ' H', Iv ds.length ρ' → At X.K B H' σ' ρ' γ → GO X rest D σ' H')
    (hs : ∀ x, foldedSetIterable (.Name n pn) X.env x = pure x := by intro _; rfl) (hd : (n == ("__debug__" : Str)) = false := by decide) (hcd : (n == ("__classdict__" : Str)) = false := by decide) : GO X (.For tg (.Name n pn) body [] pos :: rest) D σ H := by
  obtain ⟨v, h1, h2, h3, h4, vs, h5, h6⟩ := (A.ok j _ hj).resolve_left (by intro z; cases z)
  subst h2
  refine go_cons (ps_for hp hc (pi_list (pe_var hN hv hd hcd)) hg pss_any hs) ⟨_, h1, p, rfl, ⟨_, .of h5⟩, ?_⟩
  refine for_core (G := fun H => ∃ vs, H p = some (.lst vs) ∧ DqAll X.K H vs ds) ⟨fun i H2 gd hi => ?_, fun H2 gd => ?_, fun i H2 y H3 gd hi hy => ?_⟩ h4 A h0 (fun i ρ' σ' H' hv A' => ?_) hr step done
  · obtain ⟨ws, q1, q2⟩ := gd
    rw [← q2.length] at hi
    exact walk_list.goes i H2 hi (.of q1)
  · obtain ⟨ws, q1, q2⟩ := gd
    rw [← q2.length]
    exact walk_list.stops H2 (.of q1)
  · obtain ⟨ws, q1, q2⟩ := gd
    rw [← q2.length] at hi
    obtain ⟨h1, h2⟩ := walk_list.yields i H2 y H3 hi (.of q1) hy
    subst h1
    obtain ⟨d, h3, h4⟩ := q2.get h2
    exact ⟨Same.refl _, d, h3, h4⟩
  · obtain ⟨v, g1, g2, g3, g4, vs, g5, g6⟩ := (A'.ok j _ (hk i ρ' hv)).resolve_left (by intro z; cases z)
    exact ⟨vs, g5, g6⟩
theorem noL_rg (n : Nat) : noLs (rgD n) = true := noLs_iff.mpr fun d hd => by
  obtain ⟨i, _, rfl⟩ := List.mem_map.mp hd
  rfl
/-- for target in range(a) -/
theorem go_forR {n : Nat} (A : At X.K B H σ ρ γ) (hp : PassesOwn (model X.prog X.w) X.A X.env X.xe) (hc : X.calm = true) (src : EVS X [a] (ρ.map view) [.int n]) (hb : n < 1000000) (hgr : Gl X "range") (hm : X.mg "range" = none) (hg : PG X tg g) (hr : ∀ d ∈ rgD n, RdA X.K g d (u d)) (h0 : Iv 0 ρ)
    (step : ∀ i ρ' σ' H', i < n → Iv i ρ' → At X.K B H' σ' (u (.int (i : Nat)) ρ') γ → GO X body { D with nx := NX X.K B γ (Iv (i + 1)), ct := NX X.K B γ (Iv (i + 1)), bk := fun σ H => GO X rest D σ H } σ' H') (done : ∀ ρ' σ' H', Iv n ρ' → At X.K B H' σ' ρ' γ → GO X rest D σ' H')
    (hsa : starEach [a] X.env = [(false, eval a X.env)] := by rfl) (hs : ∀ x, foldedSetIterable (.Call (.Name "range" p1) [a] [] pos) X.env x = pure x := by intro _; rfl) {pos2 : Pos} : GO X (.For tg (.Call (.Name "range" p1) [a] [] pos) body [] pos2 :: rest) D σ H := by
  refine go_cons (ps_for hp hc (pi_range1 hgr hm pa_any hsa) hg pss_any hs) (src.use A.envD fun vs H1 e1 dv => ?_)
  obtain ⟨v, rfl, hv⟩ := dq1 dv
  cases hv
  have hl : (rgD n).length = n := by simp [rgD]
  refine ⟨_, rfl, by omega, by omega, for_core (G := fun _ => True) (ds := rgD n) ⟨fun i H2 _ hi => ?_, fun H2 _ => ?_, fun i H2 y H3 _ hi hy => ?_⟩ (noL_rg n) (A.to e1) h0 (fun _ _ _ _ _ _ => trivial) hr (fun i d ρ' σ' H' hd hv A' => ?_) fun ρ' σ' H' hv A' => done ρ' σ' H' (by rw [hl] at hv; exact hv) A'⟩
  · rw [hl] at hi
    show i < (n : Int).toNat
    omega
  · rw [hl]
    show (n : Int).toNat ≤ n
    omega
  · rw [hl] at hi
    obtain ⟨h1, h2⟩ := hy
    subst h1 h2
    refine ⟨Same.refl _, .int (i : Nat), by simp [rgD, hi], ?_⟩
    have : (0 : Int) + (i : Nat) = (i : Nat) := by omega
    rw [this]
    exact .int _
  · have hi : i < n := by
      have := (List.getElem?_eq_some_iff.mp hd).1
      omega
    have hd' : d = .int (i : Nat) := by
      have : (rgD n)[i]? = some (.int (i : Nat)) := by simp [rgD, hi]
      rw [this] at hd
      exact (Option.some.inj hd).symm
    subst hd'
    exact step i ρ' σ' H' hi hv A'
/-- while -/
theorem go_while {Jv : List Sl → Prop} (μ : List Sl → Nat) (A : At X.K B H σ ρ γ) (hp : PassesOwn (model X.prog X.w) X.A X.env X.xe) (h0 : Jv ρ)
    (step : ∀ ρ' σ' H', Jv ρ' → At X.K B H' σ' ρ' γ → ∃ b, EVT X c (ρ'.map view) b ∧ (b = true → ∀ H2, At X.K B H2 σ' ρ' γ → GO X body { D with nx := NX X.K B γ fun ρ2 => Jv ρ2 ∧ μ ρ2 < μ ρ', ct := NX X.K B γ fun ρ2 => Jv ρ2 ∧ μ ρ2 < μ ρ', bk := fun σ H => GO X rest D σ H } σ' H2) ∧
      (b = false → ∀ H2, At X.K B H2 σ' ρ' γ → GO X rest D σ' H2)) : GO X (.While c body [] pos :: rest) D σ H := by
  refine go_cons (ps_while hp pt_any pss_any) ⟨fun m σ' H' => ∃ ρ', m = μ ρ' ∧ Jv ρ' ∧ At X.K B H' σ' ρ' γ, ⟨_, ρ, rfl, h0, A⟩, ?_⟩
  rintro m σ' H' ⟨ρ', rfl, hv, A'⟩
  obtain ⟨b, h1, h2, h3⟩ := step ρ' σ' H' hv A'
  refine h1.use A'.envD fun H2 e2 => ?_
  cases b with
  | true =>
    refine iteT ⟨_, ?_, h2 rfl H2 (A'.to e2)⟩
    rintro σ3 H3 ⟨ρ3, ⟨hv3, lt⟩, A3⟩
    exact ⟨μ ρ3, lt, ρ3, rfl, hv3, A3⟩
  | false => exact iteF (h3 rfl H2 (A'.to e2))
end
/-! ## a def keeps its promise -/
section
variable {P : Program} {w : World} {K : PySem.W.Frag} {mg : Str → Option Value} {base : Heap} {f : Addr} {fd : FuncData} {N ps : List Str} {k : Nat} {x qual : Str} {st : Stmt}
/-- what a def's body is run in -/
abbrev CxF (P : Program) (w : World) (K : PySem.W.Frag) (mg : Str → Option Value) (base : Heap) (N : List Str) (qual : Str) (st : Stmt) (f : Addr) (cdv : Value) (A : Around) (outer : List Env) (s : Shared) (H : Hp) (E : XK) : Cx := (cxOf CX0 P w K mg base N qual (defScope st) f cdv A outer s H E).nox
theorem Fun.okG {sp : Sp} (F : Fun K x qual st f fd) (S : FnScope N ps (defScope st)) (len : ∀ vs H Q E, sp vs H Q E → vs.length = ps.length)
    (body : ∀ (cdv : Value) (A : Around) (outer : List Env) (s : Shared) (H : Hp) (vs : List V) (Q : VK) (E : XK), Room k (A.deeper (envOfC qual (defScope st) s.heap.objs.size f cdv)) → sp vs H Q E →
      GO (CxF P w K mg base N qual st f cdv A outer s H E) (defBody st) { nx := fun _ H' => Q .non H', rt := Q } (start N vs) H) : FnOk P w K mg base CX0 (k + 1) f fd ps sp :=
  Fun.ok F S len fun cdv A outer s H vs Q E hr h => ⟨_, pss_any, body cdv A outer s H vs Q E hr h⟩
/-- a def of data -/
theorem Fun.okD {ar : Nat} {rel : List PyData → PyData → Prop} (F : Fun K x qual st f fd) (S : FnScope N ps (defScope st)) (hl : ar = ps.length) (hN : ps.length ≤ N.length)
    (body : ∀ (cdv : Value) (A : Around) (outer : List Env) (s : Shared) (H : Hp) (Q : VK) (E : XK) (ds : List PyData) (z : PyData) (σ : L2.St), Room k (A.deeper (envOfC qual (defScope st) s.heap.objs.size f cdv)) → rel ds z → ds.length = ar → (∀ v H', Same H H' → Dq K H' v z → Q v H') →
      At K H H σ (ds.map Sl.im ++ List.replicate (N.length - ds.length) Sl.no) [] → GO (CxF P w K mg base N qual st f cdv A outer s H E) (defBody st) { nx := fun _ H' => Q .non H', rt := Q } σ H) : FnOk P w K mg base CX0 (k + 1) f fd ps (spR K ar rel) :=
  Fun.okG F S (fun vs H Q E h => h.1.trans hl) fun cdv A outer s H vs Q E hr ⟨h1, ds, z, h2, h3, h4⟩ =>
    body cdv A outer s H Q E ds z _ hr h3 (by rw [← h2.length, h1]) h4 (At.start h2 (by omega))
theorem Fun.okL {ar : Nat} {rel : List PyData → List PyData → Prop} (F : Fun K x qual st f fd) (S : FnScope N ps (defScope st)) (hl : ar = ps.length) (hN : ps.length ≤ N.length)
    (body : ∀ (cdv : Value) (A : Around) (outer : List Env) (s : Shared) (H : Hp) (Q : VK) (E : XK) (ds : List PyData) (z : List PyData) (σ : L2.St), Room k (A.deeper (envOfC qual (defScope st) s.heap.objs.size f cdv)) → rel ds z → ds.length = ar → (∀ v H', QL K H z v H' → Q v H') →
      At K H H σ (ds.map Sl.im ++ List.replicate (N.length - ds.length) Sl.no) [] → GO (CxF P w K mg base N qual st f cdv A outer s H E) (defBody st) { nx := fun _ H' => Q .non H', rt := Q } σ H) : FnOk P w K mg base CX0 (k + 1) f fd ps (spL K ar rel) :=
  Fun.okG F S (fun vs H Q E h => h.1.trans hl) fun cdv A outer s H vs Q E hr ⟨h1, ds, z, h2, h3, h4⟩ =>
    body cdv A outer s H Q E ds z _ hr h3 (by rw [← h2.length, h1]) h4 (At.start h2 (by omega))
end
end TH

set_option maxHeartbeats 2000000
/-! sets of keys (ints, texts): set(list), sorted(set) -/
namespace TH
open PySem PySem.Spec PyProof.Rows L2
section
variable {P : Program} {w : World} {κ : Type} [DecidableEq κ]
/-- an entry bears the key k -/
def EnK (knd : PySem.KeyKind P w κ) (e : Int × Value) (k : κ) : Prop := knd.is k e.2 = true ∧ e.1 = knd.hash k ∧ e.2.scannable = true
theorem paired_perm {α β : Type} {R : α → β → Prop} {l l' : List α} (p : l'.Perm l) : ∀ {ks : List β}, Paired R l ks → ∃ ks', Paired R l' ks' ∧ ks'.Perm ks := by
  induction p with
  | nil => intro ks h; exact ⟨ks, h, .refl _⟩
  | cons x _ ih =>
    intro ks h
    cases h with
    | cons r t =>
      obtain ⟨ks', h1, h2⟩ := ih t
      exact ⟨_ :: ks', .cons r h1, h2.cons _⟩
  | swap x y l =>
    intro ks h
    cases h with
    | cons r t =>
      cases t with
      | cons r' t' => exact ⟨_ :: _ :: _, .cons r' (.cons r t'), .swap _ _ _⟩
  | trans _ _ ih1 ih2 =>
    intro ks h
    obtain ⟨k1, h1, h2⟩ := ih2 h
    obtain ⟨k2, h3, h4⟩ := ih1 h1
    exact ⟨k2, h3, h4.trans h2⟩
/-- the set at a has the members ks, each once; its table can be walked -/
structure SetG (knd : PySem.KeyKind P w κ) (h : Heap) (a : Addr) (ks : List κ) : Prop where
  ex : ∃ o es ep t ls, h.get? a = some o ∧ o.ExactSet ∧ o.data = .set es ep t ∧ Paired (EnK knd) es.toList ls ∧ ls.Perm ks ∧ es.size < scanBound ∧ t.fits es.size = true ∧ Ris t.place.toList ∧ (w.params.followText "set-order" = true ∨ t.led = true)
  nd : ks.Nodup
variable {knd : PySem.KeyKind P w κ} {h h' : Heap} {a : Addr} {ks : List κ}
theorem SetG.keep (R : SetG knd h a ks) (k : ∀ o, h.get? a = some o → h'.get? a = some o) : SetG knd h' a ks := by
  obtain ⟨⟨o, es, ep, t, ls, ho, r⟩, nd⟩ := R
  exact ⟨⟨o, es, ep, t, ls, k o ho, r⟩, nd⟩
theorem SetG.perm {ks' : List κ} (R : SetG knd h a ks) (p : ks.Perm ks') : SetG knd h a ks' := by
  obtain ⟨⟨o, es, ep, t, ls, h1, h2, h3, h4, h5, r⟩, nd⟩ := R
  exact ⟨⟨o, es, ep, t, ls, h1, h2, h3, h4, h5.trans p, r⟩, p.nodup_iff.mp nd⟩
theorem paired_elems {l : List (Int × Value)} {ls : List κ} (h : Paired (EnK knd) l ls) : ElemsOf knd l := by
  induction h with
  | nil => intro e he; cases he
  | cons r _ ih =>
    intro e he
    rcases List.mem_cons.mp he with rfl | he
    · exact ⟨⟨_, r.1, r.2.1⟩, r.2.2⟩
    · exact ih e he
theorem paired_mem {l : List (Int × Value)} {ls : List κ} (h : Paired (EnK knd) l ls) (k : κ) : k ∈ ls ↔ ∃ e ∈ l, knd.is k e.2 = true := by
  induction h with
  | nil => simp
  | @cons e k' l ls r _ ih =>
    constructor
    · intro hk
      rcases List.mem_cons.mp hk with rfl | hk
      · exact ⟨e, List.mem_cons_self, r.1⟩
      · obtain ⟨e', h1, h2⟩ := ih.mp hk
        exact ⟨e', List.mem_cons_of_mem _ h1, h2⟩
    · rintro ⟨e', h1, h2⟩
      rcases List.mem_cons.mp h1 with rfl | h1
      · rw [knd.inj _ _ _ h2 r.1]
        exact List.mem_cons_self
      · exact List.mem_cons_of_mem _ (ih.mpr ⟨e', h1, h2⟩)
theorem paired_len {α β : Type} {R : α → β → Prop} {l : List α} {ls : List β} (h : Paired R l ls) : l.length = ls.length := by
  induction h with
  | nil => rfl
  | cons _ _ ih => simp [ih]
variable {A : Around} {E : Value → Shared → Prop} {s : Shared}
theorem setG_tail {g : Bool → Sem Unit} (hg : ∀ (b : Bool) (s1 : Shared) (Q' : Unit → Shared → Prop), Q' () s1 → wpAny (model P w) A (g b) Q' E s1)
    {o : Obj} {es : Array (Int × Value)} {ep : Nat} {t : SetTable} (ho : s.heap.get? a = some o) (hex : o.ExactSet) (hd : o.data = .set es ep t)
    {en : Array (Int × Value)} {tn : SetTable} {ls : List κ} (hp : Paired (EnK knd) en.toList ls) (hl : ls.Perm ks) (nd : ks.Nodup) (hb : en.size < scanBound) (hf : tn.fits en.size = true) (hr : Ris tn.place.toList)
    (hw : w.params.followText "set-order" = true ∨ tn.led = true) {dummy : Bool} {R : Option Bool → Shared → Prop} (hR : ∀ h', Heap.SameBut a s.heap h' → SetG knd h' a ks → R (some true) { s with heap := h' }) :
    wpAny (model P w) A (do
        storeSet a en tn
        if (!dummy && tn.tooFull) = true then do
            g (relayAll tn en (SetTable.grown en.size)).2.2
            storeSet a (relayAll tn en (SetTable.grown en.size)).1 (relayAll tn en (SetTable.grown en.size)).2.1
            pure (some true)
          else pure (some true)) R E s := by
  refine wpAny_bind (wpAny_storeSet_of ho hd ?_ (fits_of_scanBound hb))
  have o1 := store_at (es' := en) (t' := tn) ho hd
  have u1 := Heap.SameBut.update s.heap a (Obj.putSet en tn)
  split
  · have pm := relayAll_perm tn en (SetTable.grown en.size)
    have q1 := relayAll_fits tn en (SetTable.grown en.size)
    have q2 := relayAll_ris tn en (SetTable.grown en.size)
    have q3 := relayAll_led tn en (SetTable.grown en.size)
    generalize relayAll tn en (SetTable.grown en.size) = Z at pm q1 q2 q3 ⊢
    obtain ⟨ez, tz, gave⟩ := Z
    dsimp only at pm q1 q2 q3 ⊢
    have hz : ez.size = en.size := by rw [← Array.length_toList, pm.length_eq, Array.length_toList]
    refine wpAny_bind (hg _ _ _ ?_)
    refine wpAny_bind (wpAny_storeSet_of o1 rfl ?_ (fits_of_scanBound (by rw [hz]; exact hb)))
    have o2 := store_at (es' := ez) (t' := tz) o1 rfl
    obtain ⟨lz, h1, h2⟩ := paired_perm pm hp
    exact wpAny_pure (hR _ (u1.trans (Heap.SameBut.update _ a _)) ⟨⟨_, ez, _, tz, lz, o2, hex, rfl, h1, h2.trans hl, by rw [hz]; exact hb, q1, q2, hw.imp id fun z => by rw [q3]; exact z⟩, nd⟩)
  · exact wpAny_pure (hR _ u1 ⟨⟨_, en, _, tn, ls, o1, hex, rfl, hp, hl, hb, hf, hr, hw⟩, nd⟩)
/-- one more key -/
theorem setG_add {k : κ} {v : Value} {Q : Bool → Shared → Prop} (R : SetG knd s.heap a ks) (hk : knd.is k v = true) (hs : v.scannable = true) (room : ks.length + 1 < scanBound)
    (hQ : ∀ b h', Heap.SameBut a s.heap h' → SetG knd h' a (if k ∈ ks then ks else k :: ks) → Q b { s with heap := h' }) :
    wpAny (model P w) A (setAddHashed a v (knd.hash k)) Q E s := by
  obtain ⟨⟨o, es, ep, t, ls, ho, hex, hd, hp, hl, hb, hf, hr, hw⟩, nd⟩ := R
  have hel : ElemsOf knd es.toList := paired_elems hp
  unfold setAddHashed setAddHashedIn
  refine wpAny_holding (wpAny_bind (wpAny_setState_of ho hd hf ?_))
  dsimp only
  rw [byScan_of hs hb hel]
  simp only [↓reduceIte]
  unfold setAddByScan
  refine wpAny_bind ?_
  refine wpAny_bind (wpAny_rule ?_)
  refine wpAny_bind (wpAny_setScan_of hk ho hd hf hel ?_)
  cases hfi : List.findIdx? (fun e => knd.is k e.2) es.toList with
  | some j =>
    dsimp only
    obtain ⟨hj, pj, _⟩ := List.findIdx?_eq_some_iff_getElem.mp hfi
    have hm : k ∈ ks := hl.mem_iff.mp ((paired_mem hp k).mpr ⟨_, List.getElem_mem hj, pj⟩)
    refine wpAny_pure (wpAny_pure ?_)
    have q := hQ false s.heap (Heap.SameBut.refl a s.heap) (by rw [if_pos hm]; exact ⟨⟨o, es, ep, t, ls, ho, hex, hd, hp, hl, hb, hf, hr, hw⟩, nd⟩)
    exact q
  | none =>
    dsimp only
    have hn : k ∉ ls := fun z => by
      obtain ⟨e, he, q⟩ := (paired_mem hp k).mp z
      have c := List.findIdx?_eq_none_iff.mp hfi e he
      rw [q] at c
      cases c
    have hm : k ∉ ks := fun z => hn (hl.mem_iff.mpr z)
    have pm := layNew_perm t es (knd.hash k) v
    have f1 := layNew_fits t es (knd.hash k) v
    have f2 := layNew_ris t es (knd.hash k) v hr
    have f3 := layNew_led t es (knd.hash k) v
    generalize layNew t es (knd.hash k) v = Z at pm f1 f2 f3 ⊢
    obtain ⟨en, tn, dummy, gave⟩ := Z
    dsimp only at pm f1 f2 f3 ⊢
    rw [Array.toList_push] at pm
    have pc : en.toList.Perm ((knd.hash k, v) :: es.toList) := pm.trans (List.perm_append_singleton _ _)
    obtain ⟨ln, p1, p2⟩ := paired_perm pc (.cons ⟨hk, rfl, hs⟩ hp : Paired (EnK knd) ((knd.hash k, v) :: es.toList) (k :: ls))
    have p3 : ln.Perm (k :: ks) := p2.trans (hl.cons k)
    have nd1 : (k :: ks).Nodup := List.nodup_cons.mpr ⟨hm, nd⟩
    have hz : en.size = ks.length + 1 := by
      have := paired_len p1
      rw [Array.length_toList] at this
      rw [this, p3.length_eq, List.length_cons]
    have hb1 : en.size < scanBound := by rw [hz]; exact room
    have hw1 : w.params.followText "set-order" = true ∨ tn.led = true := hw.imp id fun z => by rw [f3]; exact z
    have fin : ∀ h', Heap.SameBut a s.heap h' → SetG knd h' a (k :: ks) → Q true { s with heap := h' } := fun h' sb r => hQ true h' sb (by rw [if_neg hm]; exact r)
    refine wpAny_bind ?_
    have gw : ∀ (b : Bool) {s1 : Shared} {Q' : Unit → Shared → Prop}, Q' () s1 → wpAny (model P w) A (match b with | true => rule "set.scan.the-table-gave-way" | false => pure ()) Q' E s1 :=
      fun b s1 Q' q => by cases b <;> first | exact wpAny_pure q | exact wpAny_rule q
    refine gw _ ?_
    split
    · refine wpAny_bind ?_
      rw [hashByValue_scannable 8 hs]
      refine wpAny_pure ?_
      refine setG_tail ?_ ho hex hd p1 p3 nd1 hb1 ?_ ?_ ?_ ?_
      · intro b s1 Q' q; cases b <;> first | exact wpAny_pure q | exact wpAny_rule q
      · first | (split <;> first | exact f1 | exact SetTable.fits_plain_off f1) | exact f1
      · first | (split <;> exact f2) | exact f2
      · first | (split <;> exact hw1) | exact hw1
      · intro h' sb r; dsimp only; exact wpAny_pure (fin h' sb r)
    · refine wpAny_bind (wpAny_pure ?_)
      simp only [↓reduceIte]
      refine setG_tail ?_ ho hex hd p1 p3 nd1 hb1 f1 f2 hw1 ?_
      · intro b s1 Q' q; cases b <;> first | exact wpAny_pure q | exact wpAny_rule q
      · intro h' sb r; dsimp only; exact wpAny_pure (fin h' sb r)
end
/-- the keys, each once, in the order in which they are laid -/
def setIns {κ : Type} [DecidableEq κ] (ks : List κ) (k : κ) : List κ := if k ∈ ks then ks else k :: ks
def setAll {κ : Type} [DecidableEq κ] (l : List κ) : List κ := l.foldl setIns []
end TH

namespace TH
open PySem PySem.Spec PyProof.Rows L2
abbrev newS (w : World) : Obj := { cls := .type "set", dict := none, data := .set #[] 0 (.fresh 0 0 (!w.params.followText "set-order")) }
section
variable {P : Program} {w : World} {κ : Type} [DecidableEq κ] {knd : PySem.KeyKind P w κ}
theorem setG_empty {h : Heap} {a : Addr} (ho : h.get? a = some (newS w)) : SetG knd h a [] := by
  refine ⟨⟨_, #[], 0, _, [], ho, ⟨rfl, rfl, rfl⟩, rfl, .nil, .refl _, by decide, by rfl, List.Pairwise.nil, ?_⟩, List.nodup_nil⟩
  show _ ∨ (!w.params.followText "set-order") = true
  cases w.params.followText "set-order"
  · exact .inr rfl
  · exact .inl rfl
/-- v bears the key k -/
def ValK (knd : PySem.KeyKind P w κ) (v : Value) (k : κ) : Prop := knd.is k v = true ∧ v.scannable = true
theorem setAll_snoc (l : List κ) (k : κ) : setAll (l ++ [k]) = setIns (setAll l) k := by
  unfold setAll
  rw [List.foldl_append]
  rfl
theorem setIns_len (l : List κ) (k : κ) : (setIns l k).length ≤ l.length + 1 := by
  unfold setIns
  split <;> simp
theorem setAll_len : ∀ (l : List κ), (setAll l).length ≤ l.length := by
  intro l
  have q : ∀ (l acc : List κ), (l.foldl setIns acc).length ≤ acc.length + l.length := by
    intro l
    induction l with
    | nil => intro acc; simp
    | cons k l ih =>
      intro acc
      have h1 := ih (setIns acc k)
      have h2 := setIns_len acc k
      simp only [List.foldl_cons, List.length_cons]
      omega
  have := q l []
  simpa [setAll] using this
variable {A : Around} {E : Value → Shared → Prop} {s : Shared}
theorem setG_update {I : Addr} {fp wr : List Addr} {G : Array GenState → Array GenState → Prop} {n : Nat} {Pv : Nat → Value → Prop} {St : Nat → Shared → Prop} {R : Result → Shared → Prop}
    (W : WalksS P w A.in1 I fp wr G n Pv St) (S : Addr) (hS : S ∉ fp) (ks : List κ) (hn : n = ks.length) (hb : ks.length + 1 < scanBound) (hv : ∀ i v, Pv i v → ∃ k, ks[i]? = some k ∧ ValK knd v k) :
    ∀ (m i : Nat) (s : Shared), n - i = m → i ≤ n → St i s → SetG knd s.heap S (setAll (ks.take i)) →
      (∀ s', Moved (S :: wr) G s s' → SetG knd s'.heap S (setAll ks) → R (.ok (.ret .none)) s') →
      codeAny (model P w) A (.builtin "set.update.loop" ⟨[.ref S, .ref I], []⟩) R s := by
  have hw : S ∉ wr := fun h => hS (W.sub _ h)
  have sub : ∀ b ∈ wr, b ∈ S :: wr := fun b hb => List.mem_cons_of_mem _ hb
  intro m
  induction m with
  | zero =>
    intro i s hm hi hst hg hR
    have e : i = n := by omega
    subst e
    refine codeAny_builtin F.entry_set_update_loop ?_
    rw [Around.under_plainId F.plain_set_update_loop _]
    show wpAny _ A.in1 (pyNext (.ref I) >>= _) _ _ s
    refine wpAny_bind (W.done s _ _ hst fun s' mv => ?_)
    show wpAny _ A.in1 (ret Value.none) _ _ s'
    rw [List.take_of_length_le (by omega)] at hg
    exact wpAny_pure (hR s' (mv.mono sub) (hg.keep fun o q => mv.heap S o hw q))
  | succ m ih =>
    intro i s hm hi hst hg hR
    have lt : i < n := by omega
    refine codeAny_builtin F.entry_set_update_loop ?_
    rw [Around.under_plainId F.plain_set_update_loop _]
    show wpAny _ A.in1 (pyNext (.ref I) >>= _) _ _ s
    refine wpAny_bind (W.item i s _ _ lt hst fun v s' hP hst' mv => ?_)
    obtain ⟨k, hk, v1, v2⟩ := hv i v hP
    have hg' : SetG knd s'.heap S (setAll (ks.take i)) := hg.keep fun o q => mv.heap S o hw q
    show wpAny _ A.in1 (holding [v] (setAdd S v) >>= _) _ _ s'
    refine wpAny_bind (wpAny_holding ?_)
    unfold setAdd
    refine wpAny_holding ?_
    refine wpAny_bind (knd.pyHash (k := k) v1 ?_)
    refine setG_add (s := { s' with toks := s'.toks + 1 }) hg' v1 v2 (by
      have := setAll_len (ks.take i)
      rw [List.length_take] at this
      omega) fun b h' sb hg2 => ?_
    have hg3 : SetG knd h' S (setAll (ks.take (i + 1))) := by
      rw [List.take_add_one, hk]
      show SetG knd h' S (setAll (ks.take i ++ [k]))
      rw [setAll_snoc]
      exact hg2
    refine wpAny_pure ⟨plainId_quiet F.plain_set_update_loop _, ih (i + 1) _ (by omega) lt (W.frame _ s' _ _ hst' (Nat.le_succ _) fun b hb o q => ?_) hg3 fun s2 mv2 hg4 => ?_⟩
    · rw [sb.2 b (fun h : b = S => hS (by rw [← h]; exact hb))]; exact q
    · refine hR s2 (Moved.trans W.gtrans ((mv.mono sub).then_heap (Nat.le_succ _) fun b o hb q => ?_) mv2) hg4
      rw [sb.2 b (fun h : b = S => hb (by rw [h]; exact List.mem_cons_self))]; exact q
/-- set(list of keys) -/
theorem call_setG {l : Addr} {items : Array Value} (ks : List κ) {Q : Value → Shared → Prop} (hh : A.handled = none) (hl : s.heap.IsList l items) (hit : Paired (ValK knd) items.toList ks) (hb : ks.length + 1 < scanBound)
    (h : ∀ (h' : Heap) (tk : Nat), SetG knd h' s.heap.objs.size (setAll ks) → (∀ b o, s.heap.get? b = some o → h'.get? b = some o) → Q (.ref s.heap.objs.size) { s with heap := h', toks := tk }) :
    wpAny (model P w) A (call (.type "set") [.ref l]) Q E s := by
  have hsz : items.size = ks.length := by
    have q := paired_len hit
    rw [Array.length_toList] at q
    exact q
  obtain ⟨c, tl, hmro⟩ := F.called_set.mro
  have hmade := F.called_set.made
  have hsub := F.called_set.sub
  refine wpAny_call (codeAny_of_tree ?_)
  show wpAny _ _ (callAny (.type "set") _) _ _ _
  refine wpAny_pure ⟨Code.quiet_builtin _ (by decide +kernel), codeAny_builtin F.entry_type_call ?_⟩
  rw [Around.under_plain (weight_type_call_type "set" [.ref l] []) rfl]
  have g1 := F.called_set.notType
  have g2 := F.called_set.canCreate
  have g3 := F.typeCall_set_1 (.ref l)
  repeat (any_goals (first | assumption | wp_step))
  refine codeAny_mono (code_set_led1 (.ref l) (E := E) (Q₁ := fun obj s1 => obj = .ref s.heap.objs.size ∧ s1 = { s with heap := s.heap.push (newS w) }) ⟨rfl, rfl⟩) fun r s1 hr => ?_
  cases r with
  | error e => exact hr
  | ok fl =>
    cases fl with
    | ret obj =>
      obtain ⟨rfl, rfl⟩ := hr
      have hS : (s.heap.push (newS w)).get? s.heap.objs.size = some (newS w) := Heap.get?_push_size _ rfl
      have hT : Shared.TypeIs { s with heap := s.heap.push (newS w) } (.ref s.heap.objs.size) "set" := ⟨_, hS, rfl⟩
      have hli := F.called_set.init.lookup
      have hbi := F.called_set.init.bind (.ref s.heap.objs.size)
      repeat (any_goals (first | assumption | wp_step))
      refine codeAny_mono (codeAny_call_builtin (R := wants (fun r s2 => r = .none ∧ ∃ h' tk, s2 = { s with heap := h', toks := tk } ∧ SetG knd h' s.heap.objs.size (setAll ks) ∧ (∀ b o, s.heap.get? b = some o → h'.get? b = some o)) E) F.called_set.init.plain F.entry_set_init (check_set_init_1 hT ?_)) fun r2 s2 hr2 => ?_
      · obtain ⟨ol, hol, hcl, nl, hdl⟩ := hl
        obtain ⟨ocls, odict, odata, oslots⟩ := ol
        simp only at hcl hdl
        subst hcl; subst hdl
        have hol' : (s.heap.push (newS w)).get? l = some { cls := .type "list", dict := odict, data := .seq items nl, slots := oslots } := Heap.get?_push_of_some _ hol
        have hsls := F.sub_list_set
        have hslf := F.sub_list_frozenset
        have hne : (Value.type "list" == Value.type "dict") = false := by decide
        have hl1 : (s.heap.push (newS w)).IsList l items := ⟨_, hol', rfl, nl, rfl⟩
        unfold Builtin.«set.__init__» noKeywords Builtin.Frozenset.updateFrom
        generalize hPI : pyIter = PI
        wp_walk
        subst hPI
        refine wpAny_pyIter_list hl1 ?_
        refine wpAny_bind (wpAny_runValue ?_)
        have hlS : l < s.heap.objs.size := Heap.lt_size hol
        have hh3 : A.in1.in1.in1.handled = none := by simp [hh]
        have hneI : l ≠ (s.heap.push (newS w)).objs.size := by rw [Heap.size_push]; exact Nat.ne_of_lt (Nat.lt_succ_of_lt hlS)
        have hSf : s.heap.objs.size ∉ [(s.heap.push (newS w)).objs.size, l] := by
          rw [Heap.size_push]
          simp only [List.mem_cons, List.mem_singleton, List.not_mem_nil, or_false, not_or]
          exact ⟨Nat.ne_of_lt (Nat.lt_succ_self _), Nat.ne_of_gt hlS⟩
        have get : ∀ {vs : List Value} {js : List κ}, Paired (ValK knd) vs js → ∀ (i : Nat) (v : Value), vs[i]? = some v → ∃ k, js[i]? = some k ∧ ValK knd v k := by
          intro vs js hp
          induction hp with
          | nil => intro i v e; simp at e
          | cons r _ ih =>
            intro i v e
            cases i with
            | zero => simp at e; subst e; exact ⟨_, rfl, r⟩
            | succ i =>
              obtain ⟨k, h1, h2⟩ := ih i v (by simpa using e)
              exact ⟨k, by simpa using h1, h2⟩
        have hval : ∀ (i : Nat) (v : Value), items[i]? = some v → ∃ k, ks[i]? = some k ∧ ValK knd v k := fun i v hv => get hit i v (by rw [Array.getElem?_toList]; exact hv)
        refine setG_update ((Walks.list hh3 _ l hneI items).toS) s.heap.objs.size hSf ks hsz hb hval (items.size - 0) 0 _ (by omega) (Nat.zero_le _) ⟨⟨_, Heap.get?_push_size _ rfl, rfl, rfl⟩, (hl1.push _)⟩ ?hS0 ?hR
        case hS0 => exact setG_empty (Heap.get?_push_of_some _ hS)
        case hR =>
          intro s' mv hg
          obtain ⟨h', g', d', tk', os'⟩ := s'
          have eg : g' = s.gens := mv.gens
          have ed : d' = s.drawn := mv.drawn
          have eo : os' = s.os := mv.os
          subst eg; subst ed; subst eo
          show wpAny _ _ _ _ _ _
          refine wpAny_pure ?_
          show wpAny _ _ (ret Value.none) _ _ _
          refine wpAny_pure ⟨rfl, h', tk', rfl, hg, fun b o q => ?_⟩
          have hb0 : b < s.heap.objs.size := Heap.lt_size q
          have hb2 : b ≠ (s.heap.push (newS w)).objs.size := by rw [Heap.size_push]; exact Nat.ne_of_lt (Nat.lt_succ_of_lt hb0)
          exact mv.heap b o (by simp only [List.mem_cons, List.mem_singleton, List.not_mem_nil, or_false, not_or]; exact ⟨Nat.ne_of_lt hb0, hb2⟩) (Heap.get?_push_of_some _ (Heap.get?_push_of_some _ q))
      · cases r2 with
        | error e => exact hr2
        | ok fl2 =>
          cases fl2 with
          | ret r =>
            obtain ⟨rfl, h', tk, rfl, hg, hk⟩ := hr2
            repeat (any_goals (first | assumption | wp_step))
            exact h _ _ hg hk
          | _ => exact hr2.elim
    | _ => exact hr.elim
end
/-! ## sorted(set) -/
section
variable {P : Program} {w : World} {A : Around} {E : Value → Shared → Prop} {s : Shared} {a : Addr}
theorem strs_of_paired : ∀ {l : List (Int × Value)} {xs : List Str}, Paired (EnK (PySem.strKind P w)) l xs → StrsAre (l.map (·.2)) xs
  | _, _, .nil => .nil
  | _, _, .cons (a := e) (b := x) r t => by
    obtain ⟨tk, q⟩ := Value.isStrOf_shape (x := x) (v := e.2) r.1
    rw [List.map_cons, q]
    exact .cons x tk (strs_of_paired t)
theorem ints_of_paired : ∀ {l : List (Int × Value)} {xs : List Int}, Paired (EnK (PySem.intKind P w)) l xs → IntsAre (l.map (·.2)) xs
  | _, _, .nil => .nil
  | _, _, .cons (a := e) (b := x) r t => by
    obtain ⟨tk, q⟩ := Value.isInt_shape (k := x) (v := e.2) r.1
    rw [List.map_cons, q]
    exact .cons x tk (ints_of_paired t)
theorem strs_perm {vs us : List Value} (p : us.Perm vs) : ∀ {xs : List Str}, StrsAre vs xs → ∃ ys, StrsAre us ys ∧ ys.Perm xs := by
  induction p with
  | nil => intro xs h; exact ⟨xs, h, .refl _⟩
  | cons x _ ih =>
    intro xs h
    cases h with
    | cons y t r =>
      obtain ⟨ys, h1, h2⟩ := ih r
      exact ⟨y :: ys, .cons y t h1, h2.cons _⟩
  | swap x y l =>
    intro xs h
    cases h with
    | cons b t r =>
      cases r with
      | cons c u r' => exact ⟨c :: b :: _, .cons c u (.cons b t r'), .swap _ _ _⟩
  | trans _ _ ih1 ih2 =>
    intro xs h
    obtain ⟨k1, h1, h2⟩ := ih2 h
    obtain ⟨k2, h3, h4⟩ := ih1 h1
    exact ⟨k2, h3, h4.trans h2⟩
theorem ints_perm {vs us : List Value} (p : us.Perm vs) : ∀ {xs : List Int}, IntsAre vs xs → ∃ ys, IntsAre us ys ∧ ys.Perm xs := by
  induction p with
  | nil => intro xs h; exact ⟨xs, h, .refl _⟩
  | cons x _ ih =>
    intro xs h
    cases h with
    | cons y t r =>
      obtain ⟨ys, h1, h2⟩ := ih r
      exact ⟨y :: ys, .cons y t h1, h2.cons _⟩
  | swap x y l =>
    intro xs h
    cases h with
    | cons b t r =>
      cases r with
      | cons c u r' => exact ⟨c :: b :: _, .cons c u (.cons b t r'), .swap _ _ _⟩
  | trans _ _ ih1 ih2 =>
    intro xs h
    obtain ⟨k1, h1, h2⟩ := ih2 h
    obtain ⟨k2, h3, h4⟩ := ih1 h1
    exact ⟨k2, h3, h4.trans h2⟩
theorem sortedG_strs {ks : List Str} {Q : Value → Shared → Prop} (R : SetG (PySem.strKind P w) s.heap a ks) (hh : A.handled = none) (h64 : ks.length < 64)
    (hQ : ∀ s' p (out : Array Value) (c : Nat) (xs : List Str), (∀ b o, s.heap.get? b = some o → s'.heap.get? b = some o) → s'.gens = s.gens → s'.os = s.os → s.heap.objs.size ≤ p →
      s'.heap.get? p = some (seqObj "list" out c) → StrsAre out.toList xs → xs.Perm ks → sortedS xs = true → Q (.ref p) s') :
    wpAny (model P w) A (call (.builtin "sorted") [.ref a]) Q E s := by
  obtain ⟨⟨o, es, ep, t, ls, ho, hex, hd, hp, hl, hb, hf, hr, hw⟩, nd⟩ := R
  refine Calls.call_function_entry kind_sorted plain_sorted entry_sorted (args_sorted1 _) ?_
  unfold Builtin.«sorted»
  refine wpAny_bind (m := checkCount "sorted" 1 1 _) (wpAny_pure ?_)
  refine wpAny_bind (collect_set (A := A.in1) hh ⟨o, ho, hex.1, hd⟩ hf hb hr hw fun s1 vs k1 hz g1 o1 pm => ?_)
  obtain ⟨ys, y1, y2⟩ := strs_perm pm (strs_of_paired hp)
  have yl : ys.Perm ks := y2.trans hl
  have vl : vs.length = ks.length := by rw [y1.length, yl.length_eq]
  refine wpAny_bind (wpAny_newList ?_ (by rw [vl, sizeLine_eq]; omega))
  have hoL : (s1.heap.push (seqObj "list" vs.toArray 0)).get? s1.heap.objs.size = some (seqObj "list" vs.toArray 0) := Heap.get?_push_size _ rfl
  refine wpAny_bind (wpAny_holding (wpAny_call_entry slot_list_sort ⟨_, hoL, rfl⟩ entry_list_sort (list_sort_treeK strKind_oneLt hoL y1.keysOf (fun v1 v2 rest e => keyKind_strs (by rw [← e]; exact y1)) (by rw [vl]; exact h64) fun st' q1 q2 => ⟨_, rfl, ?_⟩) (args_list_sort _)))
  obtain ⟨xs, x1, x2, x3⟩ := sorted_out_str y1 q1 q2
  obtain ⟨c, hc⟩ := sortedHeap_at (vs := vs) (out := (arrOf st').map (·.2)) hoL
  refine wpAny_pure ⟨_, rfl, hQ _ s1.heap.objs.size _ c xs (fun b u q => ?_) g1 o1 hz hc x1 (x2.trans yl) x3⟩
  have q' := k1 b u q
  have lt := Heap.lt_size q'
  show (sortedHeap (s1.heap.push (seqObj "list" vs.toArray 0)) s1.heap.objs.size vs _).get? b = some u
  rw [sortedHeap_old (Nat.ne_of_lt lt) (by rw [size_push']; exact Nat.lt_succ_of_lt lt)]
  exact Heap.get?_push_of_some _ q'
theorem sortedG_ints {ks : List Int} {Q : Value → Shared → Prop} (R : SetG (PySem.intKind P w) s.heap a ks) (hh : A.handled = none) (h64 : ks.length < 64)
    (hQ : ∀ s' p (out : Array Value) (c : Nat) (xs : List Int), (∀ b o, s.heap.get? b = some o → s'.heap.get? b = some o) → s'.gens = s.gens → s'.os = s.os → s.heap.objs.size ≤ p →
      s'.heap.get? p = some (seqObj "list" out c) → IntsAre out.toList xs → xs.Perm ks → xs.Pairwise (· ≤ ·) → Q (.ref p) s') :
    wpAny (model P w) A (call (.builtin "sorted") [.ref a]) Q E s := by
  obtain ⟨⟨o, es, ep, t, ls, ho, hex, hd, hp, hl, hb, hf, hr, hw⟩, nd⟩ := R
  refine Calls.call_function_entry kind_sorted plain_sorted entry_sorted (args_sorted1 _) ?_
  unfold Builtin.«sorted»
  refine wpAny_bind (m := checkCount "sorted" 1 1 _) (wpAny_pure ?_)
  refine wpAny_bind (collect_set (A := A.in1) hh ⟨o, ho, hex.1, hd⟩ hf hb hr hw fun s1 vs k1 hz g1 o1 pm => ?_)
  obtain ⟨ys, y1, y2⟩ := ints_perm pm (ints_of_paired hp)
  have yl : ys.Perm ks := y2.trans hl
  have vl : vs.length = ks.length := by rw [y1.length, yl.length_eq]
  refine wpAny_bind (wpAny_newList ?_ (by rw [vl, sizeLine_eq]; omega))
  have hoL : (s1.heap.push (seqObj "list" vs.toArray 0)).get? s1.heap.objs.size = some (seqObj "list" vs.toArray 0) := Heap.get?_push_size _ rfl
  refine wpAny_bind (wpAny_holding (wpAny_call_entry slot_list_sort ⟨_, hoL, rfl⟩ entry_list_sort (list_sort_tree hoL y1 (by rw [vl]; exact h64) fun out xs x1 x2 x3 => ⟨_, rfl, ?_⟩) (args_list_sort _)))
  obtain ⟨c, hc⟩ := sortedHeap_at (vs := vs) (out := out) hoL
  refine wpAny_pure ⟨_, rfl, hQ _ s1.heap.objs.size _ c xs (fun b u q => ?_) g1 o1 hz hc x1 (x2.trans yl) x3⟩
  have q' := k1 b u q
  have lt := Heap.lt_size q'
  show (sortedHeap (s1.heap.push (seqObj "list" vs.toArray 0)) s1.heap.objs.size vs _).get? b = some u
  rw [sortedHeap_old (Nat.ne_of_lt lt) (by rw [size_push']; exact Nat.lt_succ_of_lt lt)]
  exact Heap.get?_push_of_some _ q'
end
end TH

set_option maxHeartbeats 2000000
namespace TH
open PySem PySem.Spec PyProof.Rows L2
section
variable {X : Cx}
/-- a set of texts, a set of ints, as things of the heap -/
def SetSO (P : Program) (w : World) (a : Addr) (ks : List Str) : HO := .ext fun h => SetG (PySem.strKind P w) h a ks
def SetIO (P : Program) (w : World) (a : Addr) (ks : List Int) : HO := .ext fun h => SetG (PySem.intKind P w) h a ks
theorem setO_new {P : Program} {w : World} {κ : Type} [DecidableEq κ] {knd : PySem.KeyKind P w κ} {H : Hp} {h : Heap} {a : Addr} {ks : List κ} (R : SetG knd h a ks) : ObjOk P w H h a (.ext fun h => SetG knd h a ks) := by
  obtain ⟨⟨o, es, ep, t, ls, ho, r⟩, nd⟩ := id R
  exact ⟨R, ⟨o, ho⟩, fun h1 h2 p k => p.keep k⟩
theorem paired_strs {P : Program} {w : World} : ∀ {ks : List Str} {us : List Value}, Vals (ks.map V.str) us → Paired (ValK (PySem.strKind P w)) us ks
  | [], _, .nil => .nil
  | k :: ks, _, .cons r t => by
    obtain ⟨tk, rfl⟩ := r
    exact .cons ⟨PySem.strKind_is _ _ _ _, rfl⟩ (paired_strs t)
theorem paired_ints {P : Program} {w : World} : ∀ {ks : List Int} {us : List Value}, Vals (ks.map V.int) us → Paired (ValK (PySem.intKind P w)) us ks
  | [], _, .nil => .nil
  | k :: ks, _, .cons r t => by
    obtain ⟨tk, rfl⟩ := r
    exact .cons ⟨PySem.intKind_is _ _ _ _, rfl⟩ (paired_ints t)
def rSetS (P : Program) (w : World) : List V → Hp → VK → Prop := fun xs H Q => ∃ (l : Addr) (ks : List Str), xs = [V.ref l] ∧ H l = some (.lst (ks.map V.str)) ∧ ks.length ≤ 4000 ∧ ∀ p, H p = none → Q (.ref p) (upd H p (SetSO P w p (setAll ks)))
def rSetI (P : Program) (w : World) : List V → Hp → VK → Prop := fun xs H Q => ∃ (l : Addr) (ks : List Int), xs = [V.ref l] ∧ H l = some (.lst (ks.map V.int)) ∧ ks.length ≤ 4000 ∧ ∀ p, H p = none → Q (.ref p) (upd H p (SetIO P w p (setAll ks)))
theorem cr_setS (hc : X.calm = true) : CallR X (.type "set") (rSetS X.prog X.w) := by
  intro pins s σ H xs us Q I r h
  obtain ⟨l, ks, rfl, hl, hz, q⟩ := h
  rw [Vals.ref1 r]
  obtain ⟨its, rv, pl, _⟩ := I.list (.of hl)
  refine call_setG (P := X.prog) (w := X.w) (knd := PySem.strKind X.prog X.w) ks (I.ok.hd hc) pl.isList (paired_strs rv) (by unfold scanBound; omega) fun h' tk R k => ?_
  exact ⟨.ref s.heap.objs.size, upd H s.heap.objs.size (SetSO X.prog X.w s.heap.objs.size (setAll ks)), I.laid (t' := tk) k (Nat.le_refl _) (setO_new R), rfl, q _ (I.hok.fresh (Nat.le_refl _))⟩
theorem cr_setI (hc : X.calm = true) : CallR X (.type "set") (rSetI X.prog X.w) := by
  intro pins s σ H xs us Q I r h
  obtain ⟨l, ks, rfl, hl, hz, q⟩ := h
  rw [Vals.ref1 r]
  obtain ⟨its, rv, pl, _⟩ := I.list (.of hl)
  refine call_setG (P := X.prog) (w := X.w) (knd := PySem.intKind X.prog X.w) ks (I.ok.hd hc) pl.isList (paired_ints rv) (by unfold scanBound; omega) fun h' tk R k => ?_
  exact ⟨.ref s.heap.objs.size, upd H s.heap.objs.size (SetIO X.prog X.w s.heap.objs.size (setAll ks)), I.laid (t' := tk) k (Nat.le_refl _) (setO_new R), rfl, q _ (I.hok.fresh (Nat.le_refl _))⟩
theorem shared_eta {s s' : Shared} (o : s'.os = s.os) : s' = { s with heap := s'.heap, gens := s'.gens, drawn := s'.drawn, toks := s'.toks } := by
  cases s'
  cases s
  cases o
  rfl
def rSrtS (P : Program) (w : World) : List V → Hp → VK → Prop := fun xs H Q => ∃ (a : Addr) (ks : List Str), xs = [V.ref a] ∧ H a = some (SetSO P w a ks) ∧ ks.length < 64 ∧ ∀ (ys : List Str) p, ys.Perm ks → sortedS ys = true → H p = none → Q (.ref p) (upd H p (.lst (ys.map V.str)))
def rSrtI (P : Program) (w : World) : List V → Hp → VK → Prop := fun xs H Q => ∃ (a : Addr) (ks : List Int), xs = [V.ref a] ∧ H a = some (SetIO P w a ks) ∧ ks.length < 64 ∧ ∀ (ys : List Int) p, ys.Perm ks → ys.Pairwise (· ≤ ·) → H p = none → Q (.ref p) (upd H p (.lst (ys.map V.int)))
theorem cr_srtS (hc : X.calm = true) : CallR X (.builtin "sorted") (rSrtS X.prog X.w) := by
  intro pins s σ H xs us Q I r h
  obtain ⟨a, ks, rfl, ha, h64, q⟩ := h
  have R : SetG (PySem.strKind X.prog X.w) s.heap a ks := (I.hok a _ ha).1
  rw [Vals.ref1 r]
  refine sortedG_strs R (I.ok.hd hc) h64 fun s' p out c xs k g o hp hg hout pm hs => ?_
  have hn : H p = none := I.hok.fresh hp
  have hlen : (xs.map V.str).length ≤ sizeLine := by rw [List.length_map, pm.length_eq]; exact small64 h64
  have J : Inv X pins σ (upd H p (.lst (xs.map V.str))) { s with heap := s'.heap, gens := s'.gens, drawn := s'.drawn, toks := s'.toks } :=
    I.call (ch := []) (Un.laid k hp hn) (I.hok.laid k hp ⟨hlen, out.toList, c, vals_of_strs hout, hg⟩) (by rw [g]; exact I.bare) (fun _ z => nomatch z)
  rw [shared_eta o]
  exact ⟨.ref p, _, J, rfl, q xs p pm hs hn⟩
theorem cr_srtI (hc : X.calm = true) : CallR X (.builtin "sorted") (rSrtI X.prog X.w) := by
  intro pins s σ H xs us Q I r h
  obtain ⟨a, ks, rfl, ha, h64, q⟩ := h
  have R : SetG (PySem.intKind X.prog X.w) s.heap a ks := (I.hok a _ ha).1
  rw [Vals.ref1 r]
  refine sortedG_ints R (I.ok.hd hc) h64 fun s' p out c xs k g o hp hg hout pm hs => ?_
  have hn : H p = none := I.hok.fresh hp
  have hlen : (xs.map V.int).length ≤ sizeLine := by rw [List.length_map, pm.length_eq]; exact small64 h64
  have J : Inv X pins σ (upd H p (.lst (xs.map V.int))) { s with heap := s'.heap, gens := s'.gens, drawn := s'.drawn, toks := s'.toks } :=
    I.call (ch := []) (Un.laid k hp hn) (I.hok.laid k hp ⟨hlen, out.toList, c, vals_of_ints hout, hg⟩) (by rw [g]; exact I.bare) (fun _ z => nomatch z)
  rw [shared_eta o]
  exact ⟨.ref p, _, J, rfl, q xs p pm hs hn⟩
variable {r : List (Option PyData)} {a : Expr} {p1 p2 q1 q2 : Pos}
/-- sorted(set(a)), a list of texts -/
theorem el_srtS {xs zs : List Str} (ha : EV X a r (.list (xs.map .str))) (hz : xs.length ≤ 60) (hu : ∀ ys : List Str, ys.Perm (setAll xs) → sortedS ys = true → ys = zs) (hc : X.calm = true) (hg : Gl X "sorted") (hm : X.mg "sorted" = none) (hg2 : Gl X "set") (hm2 : X.mg "set" = none)
    (hs : starEach [a] X.env = (false, eval a X.env) :: starEach [] X.env := by rfl) (hs2 : starEach [.Call (.Name "set" p2) [a] [] q2] X.env = (false, eval (.Call (.Name "set" p2) [a] [] q2) X.env) :: starEach [] X.env := by rfl)
    (hl : (backTo q2 (starEach [] X.env)).any (·.1) = false := by rfl) (hl2 : (backTo q1 (starEach [] X.env)).any (·.1) = false := by rfl) : EVL X (.Call (.Name "sorted" p1) [.Call (.Name "set" p2) [a] [] q2] [] q1) r (zs.map .str) :=
  .mk' (pe_callB (cr_srtS hc) hg hm (by decide +kernel) (pa_cons (pe_callTy (cr_setS hc) hg2 hm2 (by decide +kernel) (pa_cons pe_any pa_nil hs) (by decide) (by decide) hs hl) pa_nil hs2) (by decide) (by decide) hs2 hl2) fun σ H E => ha.use E fun v H1 e1 dv => by
    cases dv with
    | lst h1 h2 =>
      rw [h2.strs] at h1
      refine ⟨_, xs, rfl, h1, by omega, fun p hp => ?_⟩
      refine ⟨p, _, rfl, upd_same, ?_, fun ys q pm hs hq => ?_⟩
      · have := setAll_len xs
        omega
      · have e := hu ys pm hs
        subst e
        have e2 : Same H1 (upd (upd H1 p (SetSO X.prog X.w p (setAll xs))) q (.lst (ys.map V.str))) := (same_new hp).trans (same_new hq)
        exact ⟨q, _, rfl, e1.free ((same_new hp).free hq), e1.trans e2, upd_same, dps_strs ys⟩
theorem el_srtI {xs zs : List Int} (ha : EV X a r (.list (xs.map .int))) (hz : xs.length ≤ 60) (hu : ∀ ys : List Int, ys.Perm (setAll xs) → ys.Pairwise (· ≤ ·) → ys = zs) (hc : X.calm = true) (hg : Gl X "sorted") (hm : X.mg "sorted" = none) (hg2 : Gl X "set") (hm2 : X.mg "set" = none)
    (hs : starEach [a] X.env = (false, eval a X.env) :: starEach [] X.env := by rfl) (hs2 : starEach [.Call (.Name "set" p2) [a] [] q2] X.env = (false, eval (.Call (.Name "set" p2) [a] [] q2) X.env) :: starEach [] X.env := by rfl)
    (hl : (backTo q2 (starEach [] X.env)).any (·.1) = false := by rfl) (hl2 : (backTo q1 (starEach [] X.env)).any (·.1) = false := by rfl) : EVL X (.Call (.Name "sorted" p1) [.Call (.Name "set" p2) [a] [] q2] [] q1) r (zs.map .int) :=
  .mk' (pe_callB (cr_srtI hc) hg hm (by decide +kernel) (pa_cons (pe_callTy (cr_setI hc) hg2 hm2 (by decide +kernel) (pa_cons pe_any pa_nil hs) (by decide) (by decide) hs hl) pa_nil hs2) (by decide) (by decide) hs2 hl2) fun σ H E => ha.use E fun v H1 e1 dv => by
    cases dv with
    | lst h1 h2 =>
      rw [h2.ints] at h1
      refine ⟨_, xs, rfl, h1, by omega, fun p hp => ?_⟩
      refine ⟨p, _, rfl, upd_same, ?_, fun ys q pm hs hq => ?_⟩
      · have := setAll_len xs
        omega
      · have e := hu ys pm hs
        subst e
        have e2 : Same H1 (upd (upd H1 p (SetIO X.prog X.w p (setAll xs))) q (.lst (ys.map V.int))) := (same_new hp).trans (same_new hq)
        exact ⟨q, _, rfl, e1.free ((same_new hp).free hq), e1.trans e2, upd_same, dps_ints ys⟩
/-- sorted(a), a list of ints -/
theorem cl_sortedI {xs zs : List Int} (hz : xs.length < 64) (hu : ∀ ys : List Int, ys.Perm xs → ys.Pairwise (· ≤ ·) → ys = zs) : CaL X (.builtin "sorted") [.list (xs.map .int)] (zs.map .int) := ⟨_, cr_sorted, fun vs H h => by
  obtain ⟨v, rfl, hv⟩ := dq1 h
  cases hv with
  | lst hs ha =>
    rw [ha.ints] at hs
    refine ⟨_, xs, rfl, .of hs, hz, fun ys p pm pw hp => ?_⟩
    have e := hu ys pm pw
    subst e
    exact ⟨p, _, rfl, hp, same_new hp, upd_same, dps_ints ys⟩⟩
end
/-! ## which list that is -/
theorem setAll_mem {κ : Type} [DecidableEq κ] (k : κ) : ∀ (l : List κ), k ∈ setAll l ↔ k ∈ l := by
  have q : ∀ (l acc : List κ), k ∈ l.foldl setIns acc ↔ k ∈ acc ∨ k ∈ l := by
    intro l
    induction l with
    | nil => intro acc; simp
    | cons x l ih =>
      intro acc
      rw [List.foldl_cons, ih]
      unfold setIns
      by_cases h : x ∈ acc
      · rw [if_pos h, List.mem_cons]
        constructor
        · rintro (h1 | h1)
          · exact .inl h1
          · exact .inr (.inr h1)
        · rintro (h1 | h1 | h1)
          · exact .inl h1
          · rw [h1]; exact .inl h
          · exact .inr h1
      · rw [if_neg h, List.mem_cons, List.mem_cons]
        constructor
        · rintro ((h1 | h1) | h1)
          · exact .inr (.inl h1)
          · exact .inl h1
          · exact .inr (.inr h1)
        · rintro (h1 | h1 | h1)
          · exact .inl (.inr h1)
          · exact .inl (.inl h1)
          · exact .inr h1
  intro l
  rw [setAll, q]
  simp
theorem setAll_nodup {κ : Type} [DecidableEq κ] : ∀ (l : List κ), (setAll l).Nodup := by
  have q : ∀ (l acc : List κ), acc.Nodup → (l.foldl setIns acc).Nodup := by
    intro l
    induction l with
    | nil => intro acc h; exact h
    | cons x l ih =>
      intro acc h
      rw [List.foldl_cons]
      refine ih _ ?_
      unfold setIns
      by_cases hx : x ∈ acc
      · rw [if_pos hx]; exact h
      · rw [if_neg hx]; exact List.nodup_cons.mpr ⟨hx, h⟩
  intro l
  exact q l [] List.nodup_nil
theorem perm_of_mem {κ : Type} [DecidableEq κ] {a b : List κ} (ha : a.Nodup) (hb : b.Nodup) (h : ∀ k, k ∈ a ↔ k ∈ b) : a.Perm b := by
  rw [List.perm_iff_count]
  intro k
  by_cases hk : k ∈ a
  · rw [List.Nodup.count ha, List.Nodup.count hb, if_pos hk, if_pos ((h k).mp hk)]
  · rw [List.Nodup.count ha, List.Nodup.count hb, if_neg hk, if_neg (fun z => hk ((h k).mpr z))]
/-- the ascending list of the members of l is zs -/
theorem srtI_is {xs zs : List Int} (hz : zs.Pairwise (· < ·)) (h : ∀ k, k ∈ zs ↔ k ∈ xs) : ∀ ys : List Int, ys.Perm (setAll xs) → ys.Pairwise (· ≤ ·) → ys = zs := fun ys pm pw => by
  have nz : zs.Nodup := hz.imp fun h => by omega
  have p2 : ys.Perm zs := pm.trans (perm_of_mem (setAll_nodup xs) nz fun k => by rw [setAll_mem, h])
  exact PySem.W.ksm_same p2 pw (hz.imp fun h => by omega)
theorem risingS_pw : ∀ (x : Str) (l : List Str), risingS x l = true → ∀ (h : ∀ a b c : List Nat, ¬ b < a → ¬ c < b → ¬ c < a), (x :: l).Pairwise (fun a b => ¬ b.cps.toList < a.cps.toList)
  | x, [], _, _ => by simp
  | x, y :: l, h, tr => by
    have h' : (!ltCps y.cps.toList x.cps.toList && risingS y l) = true := h
    rw [Bool.and_eq_true, Bool.not_eq_true', ltCps_eq, decide_eq_false_iff_not] at h'
    have ih := risingS_pw y l h'.2 tr
    refine List.pairwise_cons.mpr ⟨fun z hz => ?_, ih⟩
    rcases List.mem_cons.mp hz with rfl | hz
    · exact h'.1
    · exact tr _ _ _ h'.1 ((List.pairwise_cons.mp ih).1 z hz)
theorem nlt_trans (a b c : List Nat) (h1 : ¬ b < a) (h2 : ¬ c < b) : ¬ c < a := by
  have q1 : a ≤ b := List.not_lt.mp h1
  have q2 : b ≤ c := List.not_lt.mp h2
  exact List.not_lt.mpr (List.le_trans q1 q2)
theorem str_ext {a b : Str} (h : a.cps.toList = b.cps.toList) : a = b := by
  cases a
  cases b
  have : _ = _ := Array.toList_inj.mp h
  simp only at this
  rw [this]
theorem srtS_is {xs zs : List Str} (nz : zs.Nodup) (hz : sortedS zs = true) (h : ∀ k, k ∈ zs ↔ k ∈ xs) : ∀ ys : List Str, ys.Perm (setAll xs) → sortedS ys = true → ys = zs := fun ys pm pw => by
  have p2 : ys.Perm zs := pm.trans (perm_of_mem (setAll_nodup xs) nz fun k => by rw [setAll_mem, h])
  have pws : ∀ l : List Str, sortedS l = true → l.Pairwise (fun a b => ¬ b.cps.toList < a.cps.toList) := fun l hl => by
    cases l with
    | nil => exact .nil
    | cons x l => exact risingS_pw x l hl nlt_trans
  refine p2.eq_of_pairwise (fun x y _ _ h1 h2 => ?_) (pws _ pw) (pws _ hz)
  exact str_ext (List.le_antisymm (List.not_lt.mp h1) (List.not_lt.mp h2))
end TH

namespace TH
open PySem PySem.Spec PyProof.Rows L2
/-! ## isinstance, by the datum -/
def isIntD : PyData → Bool
  | .int _ => true
  | .bool _ => true
  | _ => false
def isBoolD : PyData → Bool
  | .bool _ => true
  | _ => false
def isStrD : PyData → Bool
  | .str _ => true
  | _ => false
def isTupD : PyData → Bool
  | .tuple _ => true
  | _ => false
theorem kb_int (d : PyData) : kitB (tyN d) "int" = some (isIntD d) := by
  cases d
  · exact (by decide +kernel : kitB "NoneType" "int" = some false)
  · exact (by decide +kernel : kitB "bool" "int" = some true)
  · exact (by decide +kernel : kitB "int" "int" = some true)
  · exact (by decide +kernel : kitB "str" "int" = some false)
  · exact (by decide +kernel : kitB "list" "int" = some false)
  · exact (by decide +kernel : kitB "tuple" "int" = some false)
  · exact (by decide +kernel : kitB "dict" "int" = some false)
theorem kb_bool (d : PyData) : kitB (tyN d) "bool" = some (isBoolD d) := by
  cases d
  · exact (by decide +kernel : kitB "NoneType" "bool" = some false)
  · exact (by decide +kernel : kitB "bool" "bool" = some true)
  · exact (by decide +kernel : kitB "int" "bool" = some false)
  · exact (by decide +kernel : kitB "str" "bool" = some false)
  · exact (by decide +kernel : kitB "list" "bool" = some false)
  · exact (by decide +kernel : kitB "tuple" "bool" = some false)
  · exact (by decide +kernel : kitB "dict" "bool" = some false)
theorem kb_str (d : PyData) : kitB (tyN d) "str" = some (isStrD d) := by
  cases d
  · exact (by decide +kernel : kitB "NoneType" "str" = some false)
  · exact (by decide +kernel : kitB "bool" "str" = some false)
  · exact (by decide +kernel : kitB "int" "str" = some false)
  · exact (by decide +kernel : kitB "str" "str" = some true)
  · exact (by decide +kernel : kitB "list" "str" = some false)
  · exact (by decide +kernel : kitB "tuple" "str" = some false)
  · exact (by decide +kernel : kitB "dict" "str" = some false)
theorem kb_tuple (d : PyData) : kitB (tyN d) "tuple" = some (isTupD d) := by
  cases d
  · exact (by decide +kernel : kitB "NoneType" "tuple" = some false)
  · exact (by decide +kernel : kitB "bool" "tuple" = some false)
  · exact (by decide +kernel : kitB "int" "tuple" = some false)
  · exact (by decide +kernel : kitB "str" "tuple" = some false)
  · exact (by decide +kernel : kitB "list" "tuple" = some false)
  · exact (by decide +kernel : kitB "tuple" "tuple" = some true)
  · exact (by decide +kernel : kitB "dict" "tuple" = some false)
section
variable {X : Cx} {r : List (Option PyData)} {a : Expr} {p p2 pos : Pos} {d : PyData}
theorem ev_isInt (ha : EV X a r d) (hg : Gl X "isinstance") (hm : X.mg "isinstance" = none) (hg2 : Gl X "int") (hm2 : X.mg "int" = none) (hs : starEach [a, .Name "int" p2] X.env = (false, eval a X.env) :: starEach [.Name "int" p2] X.env := by rfl) (hpl : (backTo pos (starEach [.Name "int" p2] X.env)).any (·.1) = false := by rfl) : EV X (.Call (.Name "isinstance" p) [a, .Name "int" p2] [] pos) r (.bool (isIntD d)) :=
  ev_isi ha (kb_int d) hg hm hg2 hm2 (by decide +kernel) (by decide) (by decide) hs hpl
theorem ev_isBool (ha : EV X a r d) (hg : Gl X "isinstance") (hm : X.mg "isinstance" = none) (hg2 : Gl X "bool") (hm2 : X.mg "bool" = none) (hs : starEach [a, .Name "bool" p2] X.env = (false, eval a X.env) :: starEach [.Name "bool" p2] X.env := by rfl) (hpl : (backTo pos (starEach [.Name "bool" p2] X.env)).any (·.1) = false := by rfl) : EV X (.Call (.Name "isinstance" p) [a, .Name "bool" p2] [] pos) r (.bool (isBoolD d)) :=
  ev_isi ha (kb_bool d) hg hm hg2 hm2 (by decide +kernel) (by decide) (by decide) hs hpl
theorem ev_isStr (ha : EV X a r d) (hg : Gl X "isinstance") (hm : X.mg "isinstance" = none) (hg2 : Gl X "str") (hm2 : X.mg "str" = none) (hs : starEach [a, .Name "str" p2] X.env = (false, eval a X.env) :: starEach [.Name "str" p2] X.env := by rfl) (hpl : (backTo pos (starEach [.Name "str" p2] X.env)).any (·.1) = false := by rfl) : EV X (.Call (.Name "isinstance" p) [a, .Name "str" p2] [] pos) r (.bool (isStrD d)) :=
  ev_isi ha (kb_str d) hg hm hg2 hm2 (by decide +kernel) (by decide) (by decide) hs hpl
theorem ev_isTuple (ha : EV X a r d) (hg : Gl X "isinstance") (hm : X.mg "isinstance" = none) (hg2 : Gl X "tuple") (hm2 : X.mg "tuple" = none) (hs : starEach [a, .Name "tuple" p2] X.env = (false, eval a X.env) :: starEach [.Name "tuple" p2] X.env := by rfl) (hpl : (backTo pos (starEach [.Name "tuple" p2] X.env)).any (·.1) = false := by rfl) : EV X (.Call (.Name "isinstance" p) [a, .Name "tuple" p2] [] pos) r (.bool (isTupD d)) :=
  ev_isi ha (kb_tuple d) hg hm hg2 hm2 (by decide +kernel) (by decide) (by decide) hs hpl
theorem ca_allM {ds : List PyData} {g : PyData → Bool} (hc : X.calm = true) : CaD X (.builtin "all") [.list (ds.map fun d => .bool (g d))] (.bool (ds.all g)) := by
  have q := ca_all (X := X) (bs := ds.map g) hc
  rw [List.map_map, List.all_map] at q
  exact q
theorem ca_anyM {ds : List PyData} {g : PyData → Bool} (hc : X.calm = true) : CaD X (.builtin "any") [.list (ds.map fun d => .bool (g d))] (.bool (ds.any g)) := by
  have q := ca_any (X := X) (bs := ds.map g) hc
  rw [List.map_map, List.any_map] at q
  exact q
theorem el_listRg {n : Nat} {q q2 : Pos} (hc : X.calm = true) (hg : Gl X "list") (hm : X.mg "list" = none) (hg2 : Gl X "range") (hm2 : X.mg "range" = none) (ha : EV X a r (.int n)) (hn : n ≤ 100000)
    (na : starEach [a] X.env = (false, eval a X.env) :: starEach [] X.env := by rfl) (na2 : starEach [.Call (.Name "range" p2) [a] [] q2] X.env = (false, eval (.Call (.Name "range" p2) [a] [] q2) X.env) :: starEach [] X.env := by rfl) :
    EVL X (.Call (.Name "list" p) [.Call (.Name "range" p2) [a] [] q2] [] q) r (rgD n) :=
  .mk' (pe_listRg hc hg hm (prg_1 hg2 hm2 pe_any na) na2) fun σ H E => ha.use E fun v H1 e1 dv => by
    cases dv
    refine ⟨_, rfl, RgOk.of_le (by omega) (by omega) (by omega) (by omega), fun l hl => ⟨l, _, rfl, e1.free hl, e1.trans (same_new hl), upd_same, ?_⟩⟩
    unfold rgV rgD
    have e : ((n : Int) - 0).toNat = n := by omega
    rw [e]
    have q : ∀ (G : Hp) (l : List Nat), DqAll X.K G (l.map fun i => V.int (0 + (i : Nat))) (l.map fun (i : Nat) => PyData.int (i : Int)) := fun G l => by
      induction l with
      | nil => exact .nil
      | cons i l ih =>
        refine .cons ?_ ih
        have : (0 : Int) + (i : Nat) = (i : Nat) := by omega
        show Dq X.K G (V.int (0 + (i : Nat))) (.int (i : Nat))
        rw [this]
        exact .int _
    exact q _ _
end
/-! ## houses -/
inductive Ex where
  | A | B | C
  deriving DecidableEq
inductive Way where
  | h (n : Nat)
  | x (c : Ex)
  deriving DecidableEq
abbrev House := List (List Way)
abbrev Stg := List Nat
def exS : Ex → Str
  | .A => "A"
  | .B => "B"
  | .C => "C"
def dW : Way → PyData
  | .h n => .int n
  | .x c => .str (exS c)
def dR (r : List Way) : PyData := .tuple (r.map dW)
def dH (h : House) : PyData := .tuple (h.map dR)
def dS (s : Stg) : PyData := .tuple (s.map fun (n : Nat) => .int (n : Int))
structure GoodH (h : House) : Prop where
  one : 1 ≤ h.length
  four : h.length ≤ 4
  rows : ∀ r ∈ h, 1 ≤ r.length ∧ r.length ≤ 3
  ways : ∀ r ∈ h, ∀ n, Way.h n ∈ r → n < h.length
  exit : ∃ r ∈ h, ∃ c, Way.x c ∈ r
theorem noL_W (w : Way) : noL (dW w) = true := by cases w <;> rfl
theorem noLs_map {α : Type} {f : α → PyData} (h : ∀ a, noL (f a) = true) (l : List α) : noLs (l.map f) = true := noLs_iff.mpr fun d hd => by
  obtain ⟨a, _, rfl⟩ := List.mem_map.mp hd
  exact h a
theorem noL_R (r : List Way) : noL (dR r) = true := by unfold dR; rw [noL]; exact noLs_map noL_W r
theorem noL_H (h : House) : noL (dH h) = true := by unfold dH; rw [noL]; exact noLs_map noL_R h
theorem noL_S (s : Stg) : noL (dS s) = true := by unfold dS; rw [noL]; exact noLs_map (fun _ => rfl) s
/-! ### data that can be compared -/
theorem shaped_iff {d : PyData} : SeqAt.shaped d = true ↔ d.canLay0 = true ∧ d.depth ≤ 64 := by
  unfold SeqAt.shaped
  rw [Bool.and_eq_true, decide_eq_true_eq]
theorem layAll_iff : ∀ {ds : List PyData}, PyData.canLayAll0 ds = true ↔ ∀ d ∈ ds, d.canLay0 = true
  | [] => by simp [PyData.canLayAll0]
  | d :: ds => by simp [PyData.canLayAll0, layAll_iff (ds := ds)]
theorem depthAll_le {n : Nat} : ∀ {ds : List PyData}, PyData.depthAll ds ≤ n ↔ ∀ d ∈ ds, d.depth ≤ n
  | [] => by simp [PyData.depthAll]
  | d :: ds => by
    simp only [PyData.depthAll, List.mem_cons, forall_eq_or_imp]
    rw [← depthAll_le (ds := ds)]
    omega
/-- it can be laid, and is at most n deep -/
def Sh (n : Nat) (d : PyData) : Prop := d.canLay0 = true ∧ d.depth ≤ n
theorem Sh.shaped {n : Nat} {d : PyData} (h : Sh n d) (hn : n ≤ 64) : SeqAt.shaped d = true := shaped_iff.mpr ⟨h.1, Nat.le_trans h.2 hn⟩
theorem Sh.mono {n m : Nat} {d : PyData} (h : Sh n d) (hn : n ≤ m) : Sh m d := ⟨h.1, Nat.le_trans h.2 hn⟩
theorem sh_none : Sh 0 .none := ⟨rfl, Nat.le_refl _⟩
theorem sh_int (i : Int) : Sh 0 (.int i) := ⟨rfl, Nat.le_refl _⟩
theorem sh_bool (i : Bool) : Sh 0 (.bool i) := ⟨rfl, Nat.le_refl _⟩
theorem sh_str {z : Str} (h : PyData.strOk z = true) : Sh 0 (.str z) := ⟨by simpa [PyData.canLay0] using h, Nat.le_refl _⟩
theorem sh_tup {n : Nat} {ds : List PyData} (h : ∀ d ∈ ds, Sh n d) : Sh (n + 1) (.tuple ds) := by
  refine ⟨by simp only [PyData.canLay0]; exact layAll_iff.mpr fun d hd => (h d hd).1, ?_⟩
  have q : PyData.depthAll ds ≤ n := depthAll_le.mpr fun d hd => (h d hd).2
  simp only [PyData.depth]
  omega
theorem sh_lst {n : Nat} {ds : List PyData} (h : ∀ d ∈ ds, Sh n d) : Sh (n + 1) (.list ds) := by
  refine ⟨by simp only [PyData.canLay0]; exact layAll_iff.mpr fun d hd => (h d hd).1, ?_⟩
  have q : PyData.depthAll ds ≤ n := depthAll_le.mpr fun d hd => (h d hd).2
  simp only [PyData.depth]
  omega
theorem sh_map {α : Type} {n : Nat} {f : α → PyData} (h : ∀ a, Sh n (f a)) (l : List α) : ∀ d ∈ l.map f, Sh n d := fun d hd => by
  obtain ⟨a, _, rfl⟩ := List.mem_map.mp hd
  exact h a
theorem strOk_ex (c : Ex) : PyData.strOk (exS c) = true := by cases c <;> decide +kernel
theorem sh_W (w : Way) : Sh 0 (dW w) := by
  cases w with
  | h n => exact sh_int n
  | x c => exact sh_str (strOk_ex c)
theorem sh_R (r : List Way) : Sh 1 (dR r) := sh_tup (sh_map sh_W r)
theorem sh_H (h : House) : Sh 2 (dH h) := sh_tup (sh_map sh_R h)
theorem sh_S (s : Stg) : Sh 1 (dS s) := sh_tup (sh_map (fun _ => sh_int _) s)
theorem exS_inj {a b : Ex} (h : exS a = exS b) : a = b := by
  cases a <;> cases b <;> first | rfl | exact absurd h (by decide +kernel)
/-- == of data is equality of what they stand for -/
theorem eqvAll_map {α : Type} [DecidableEq α] {f : α → PyData} (h : ∀ a b, PyData.eqv (f a) (f b) = decide (a = b)) : ∀ l m : List α, PyData.eqvAll (l.map f) (m.map f) = decide (l = m)
  | [], [] => by simp [PyData.eqvAll]
  | [], b :: m => by simp [PyData.eqvAll]
  | a :: l, [] => by simp [PyData.eqvAll]
  | a :: l, b :: m => by
    simp only [List.map_cons, PyData.eqvAll, h a b, eqvAll_map h l m, List.cons.injEq]
    by_cases h1 : a = b <;> by_cases h2 : l = m <;> simp [h1, h2]
theorem eqv_int (i j : Int) : PyData.eqv (.int i) (.int j) = decide (i = j) := by
  rw [PyData.eqv]
  exact (Bool.beq_eq_decide_eq i j)
theorem eqv_nat (i j : Nat) : PyData.eqv (.int (i : Int)) (.int (j : Int)) = decide (i = j) := by
  rw [eqv_int]
  by_cases h : i = j
  · simp [h]
  · rw [decide_eq_false h, decide_eq_false (by omega)]
theorem eqv_str (i j : Str) : PyData.eqv (.str i) (.str j) = decide (i = j) := by
  rw [PyData.eqv]
  exact (Bool.beq_eq_decide_eq i j)
theorem eqv_ex (a b : Ex) : PyData.eqv (.str (exS a)) (.str (exS b)) = decide (a = b) := by
  rw [eqv_str]
  by_cases h : a = b
  · simp [h]
  · rw [decide_eq_false h, decide_eq_false fun z => h (exS_inj z)]
theorem eqv_W (a b : Way) : PyData.eqv (dW a) (dW b) = decide (a = b) := by
  cases a with
  | h n =>
    cases b with
    | h m => rw [dW, dW, eqv_nat]; by_cases h : n = m <;> simp [h]
    | x c => simp [dW, PyData.eqv]
  | x c =>
    cases b with
    | h m => simp [dW, PyData.eqv]
    | x e => rw [dW, dW, eqv_ex]; by_cases h : c = e <;> simp [h]
theorem eqv_R (a b : List Way) : PyData.eqv (dR a) (dR b) = decide (a = b) := by
  unfold dR
  rw [PyData.eqv]
  exact eqvAll_map eqv_W a b
theorem eqv_H (a b : House) : PyData.eqv (dH a) (dH b) = decide (a = b) := by
  unfold dH
  rw [PyData.eqv]
  exact eqvAll_map eqv_R a b
theorem eqv_S (a b : Stg) : PyData.eqv (dS a) (dS b) = decide (a = b) := by
  unfold dS
  rw [PyData.eqv]
  exact eqvAll_map eqv_nat a b
/-! ### items -/
theorem atI_map {α : Type} {f : α → PyData} {l : List α} {i : Nat} {a : α} (h : l[i]? = some a) : atI (l.map f) (i : Int) = some (f a) := atI_nat (by rw [List.getElem?_map, h]; rfl)
theorem get_some {α : Type} {l : List α} {i : Nat} (h : i < l.length) : l[i]? = some l[i] := List.getElem?_eq_getElem h
/-- what is a house, of any data -/
def isBtw (d : PyData) (lo hi : Int) : Bool := match d with
  | .int i => decide (lo ≤ i) && decide (i ≤ hi)
  | _ => false
def exD : List PyData := [.str "A", .str "B", .str "C"]
def isWayD (d : PyData) (n : Int) : Bool := isBtw d 0 (n - 1) || (isStrD d && exD.any fun y => PyData.eqv y d)
def tupOf : PyData → List PyData
  | .tuple ds => ds
  | _ => []
def rowOk (n : Int) (d : PyData) : Bool := isTupD d && (decide (1 ≤ (tupOf d).length) && decide ((tupOf d).length ≤ 3)) && (tupOf d).all fun w => isWayD w n
def isHouseD (d : PyData) : Bool := isTupD d && (decide (1 ≤ (tupOf d).length) && decide ((tupOf d).length ≤ 4)) && (tupOf d).all (rowOk (tupOf d).length) && (tupOf d).any fun r => (tupOf r).any isStrD
theorem isWay_ok {w : Way} {n : Nat} (h : ∀ m, w = .h m → m < n) : isWayD (dW w) n = true := by
  cases w with
  | h m =>
    have := h m rfl
    have h1 : decide ((0 : Int) ≤ (m : Int)) = true := decide_eq_true (by omega)
    have h2 : decide ((m : Int) ≤ (n : Int) - 1) = true := decide_eq_true (by omega)
    show ((decide ((0 : Int) ≤ (m : Int)) && decide ((m : Int) ≤ (n : Int) - 1)) || _) = true
    rw [h1, h2]
    rfl
  | x c => cases c <;> rfl
theorem isHouse_ok {h : House} (g : GoodH h) : isHouseD (dH h) = true := by
  have hl : (tupOf (dH h)).length = h.length := by simp [dH, tupOf]
  unfold isHouseD
  rw [hl]
  have h1 : decide (1 ≤ h.length) = true := decide_eq_true g.one
  have h2 : decide (h.length ≤ 4) = true := decide_eq_true g.four
  have h3 : (tupOf (dH h)).all (rowOk (h.length : Int)) = true := by
    refine List.all_eq_true.mpr fun d hd => ?_
    obtain ⟨r, hr, rfl⟩ := List.mem_map.mp (show d ∈ h.map dR from hd)
    have hrl : (tupOf (dR r)).length = r.length := by simp [dR, tupOf]
    obtain ⟨g1, g2⟩ := g.rows r hr
    unfold rowOk
    rw [hrl, decide_eq_true g1, decide_eq_true g2]
    refine (Bool.and_eq_true _ _).mpr ⟨rfl, List.all_eq_true.mpr fun w hw => ?_⟩
    obtain ⟨v, hv, rfl⟩ := List.mem_map.mp (show w ∈ r.map dW from hw)
    exact isWay_ok fun m e => g.ways r hr m (e ▸ hv)
  have h4 : ((tupOf (dH h)).any fun r => (tupOf r).any isStrD) = true := by
    obtain ⟨r, hr, c, hc⟩ := g.exit
    refine List.any_eq_true.mpr ⟨dR r, List.mem_map.mpr ⟨r, hr, rfl⟩, List.any_eq_true.mpr ⟨dW (.x c), List.mem_map.mpr ⟨_, hc, rfl⟩, rfl⟩⟩
  rw [h1, h2, h3, h4]
  rfl
end TH

namespace TH
open PySem
/-! ## reaching -/
def row (h : House) (i : Nat) : List Way := h.getD i []
theorem row_mem {h : House} {i : Nat} (hi : i < h.length) : row h i ∈ h := by
  unfold row
  rw [List.getD_eq_getElem?_getD, List.getElem?_eq_getElem hi]
  exact List.getElem_mem hi
theorem row_some {h : House} {i : Nat} (hi : i < h.length) : h[i]? = some (row h i) := by
  unfold row
  rw [List.getD_eq_getElem?_getD, List.getElem?_eq_getElem hi]
  rfl
theorem row_out {h : House} {i : Nat} (hi : h.length ≤ i) : row h i = [] := by
  unfold row
  rw [List.getD_eq_getElem?_getD, List.getElem?_eq_none hi]
  rfl
inductive Rch (h : House) : Nat → Nat → Prop
  | refl (x : Nat) : Rch h x x
  | step {x y z : Nat} : Rch h x y → Way.h z ∈ row h y → Rch h x z
theorem Rch.trans {h : House} {x y z : Nat} (a : Rch h x y) (b : Rch h y z) : Rch h x z := by
  induction b with
  | refl => exact a
  | step _ m ih => exact ih.step m
theorem way_lt {h : House} (g : GoodH h) {y z : Nat} (m : Way.h z ∈ row h y) : z < h.length := by
  by_cases hy : y < h.length
  · exact g.ways _ (row_mem hy) z m
  · rw [row_out (by omega)] at m
    cases m
theorem Rch.lt {h : House} (g : GoodH h) {x y : Nat} (hx : x < h.length) (r : Rch h x y) : y < h.length := by
  cases r with
  | refl => exact hx
  | step _ m => exact way_lt g m
open Classical in
noncomputable def reachL (h : House) (x : Nat) : List Nat := (List.range h.length).filter fun y => decide (Rch h x y)
theorem mem_reachL {h : House} {x y : Nat} : y ∈ reachL h x ↔ y < h.length ∧ Rch h x y := by
  unfold reachL
  rw [List.mem_filter, List.mem_range]
  simp
theorem reachL_pw (h : House) (x : Nat) : (reachL h x).Pairwise (· < ·) := by
  unfold reachL
  exact List.pairwise_lt_range.filter _
theorem reachL_len (h : House) (x : Nat) : (reachL h x).length ≤ h.length := by
  unfold reachL
  exact Nat.le_trans (List.length_filter_le _ _) (by rw [List.length_range]; exact Nat.le_refl _)
def HasEx (h : House) (x : Nat) : Prop := ∃ y, Rch h x y ∧ ∃ c, Way.x c ∈ row h y
def Safe (h : House) (x : Nat) : Prop := ∀ y, Rch h x y → HasEx h y
theorem Safe.of_rch {h : House} {x y : Nat} (s : Safe h x) (r : Rch h x y) : Safe h y := fun z q => s z (r.trans q)
open Classical in
noncomputable def safeB (h : House) (x : Nat) : Bool := decide (Safe h x)
open Classical in
noncomputable def hasExB (h : House) (x : Nat) : Bool := decide (HasEx h x)
theorem safeB_iff {h : House} {x : Nat} : safeB h x = true ↔ Safe h x := by unfold safeB; simp
theorem hasExB_iff {h : House} {x : Nat} : hasExB h x = true ↔ HasEx h x := by unfold hasExB; simp
noncomputable def safeL (h : House) : List Nat := (List.range h.length).filter (safeB h)
theorem sub_len {α : Type} : ∀ {l m : List α}, l.Nodup → (∀ x ∈ l, x ∈ m) → l.length ≤ m.length
  | [], _, _, _ => Nat.zero_le _
  | x :: l, m, nd, h => by
    obtain ⟨n1, n2⟩ := List.nodup_cons.mp nd
    obtain ⟨a, b, rfl⟩ := List.append_of_mem (h x List.mem_cons_self)
    have q := sub_len (l := l) (m := a ++ b) n2 fun y hy => by
      have := h y (List.mem_cons_of_mem _ hy)
      rcases List.mem_append.mp this with z | z
      · exact List.mem_append.mpr (.inl z)
      · rcases List.mem_cons.mp z with e | z
        · subst e; exact absurd hy n1
        · exact List.mem_append.mpr (.inr z)
    simp only [List.length_append, List.length_cons] at q ⊢
    omega
/-- no more than n different numbers lie below n -/
theorem nodup_le {n : Nat} {l : List Nat} (nd : l.Nodup) (h : ∀ x ∈ l, x < n) : l.length ≤ n := by
  have := sub_len (m := List.range n) nd fun x hx => List.mem_range.mpr (h x hx)
  rw [List.length_range] at this
  exact this
/-! ## exits -/
def exitsOf (h : House) : List Ex := [Ex.A, .B, .C].filter fun c => h.any fun r => r.contains (.x c)
theorem mem_exitsOf {h : House} {c : Ex} : c ∈ exitsOf h ↔ ∃ r ∈ h, Way.x c ∈ r := by
  unfold exitsOf
  rw [List.mem_filter, List.any_eq_true]
  constructor
  · rintro ⟨_, r, hr, hc⟩
    exact ⟨r, hr, by simpa using hc⟩
  · rintro ⟨r, hr, hc⟩
    exact ⟨by cases c <;> simp, r, hr, by simpa using hc⟩
theorem exitsOf_nodup (h : House) : (exitsOf h).Nodup := by
  unfold exitsOf
  exact (show ([Ex.A, .B, .C] : List Ex).Nodup by decide).filter _
theorem exitsOf_len (h : House) : (exitsOf h).length ≤ 3 := by
  unfold exitsOf
  exact List.length_filter_le _ _
theorem exitsOf_sorted (h : House) : PyProof.Rows.sortedS ((exitsOf h).map exS) = true := by
  unfold exitsOf
  generalize (fun c => h.any fun r => r.contains (.x c)) = p
  simp only [List.filter_cons, List.filter_nil]
  cases p .A <;> cases p .B <;> cases p .C <;> decide +kernel
/-- the exits in the order of the rows -/
def exW : Way → Option Ex
  | .h _ => none
  | .x c => some c
def exitWays (h : House) : List Ex := h.flatMap fun r => r.filterMap exW
theorem mem_exitWays {h : House} {c : Ex} : c ∈ exitWays h ↔ ∃ r ∈ h, Way.x c ∈ r := by
  unfold exitWays
  rw [List.mem_flatMap]
  constructor
  · rintro ⟨r, hr, hc⟩
    obtain ⟨v, hv, e⟩ := List.mem_filterMap.mp hc
    cases v with
    | h n => cases e
    | x d => cases e; exact ⟨r, hr, hv⟩
  · rintro ⟨r, hr, hc⟩
    exact ⟨r, hr, List.mem_filterMap.mpr ⟨_, hc, rfl⟩⟩
end TH

namespace TH
open PySem L2 PyProof.Rows
/-! ## decoders -/
def natOf : PyData → Nat
  | .int i => i.toNat
  | _ => 0
def wayOf : PyData → Way
  | .int i => .h i.toNat
  | .str z => if z = exS .A then .x .A else if z = exS .B then .x .B else .x .C
  | _ => .h 0
def rwOf (d : PyData) : List Way := (tupOf d).map wayOf
def hsOf (d : PyData) : House := (tupOf d).map rwOf
def sgOf (d : PyData) : Stg := (tupOf d).map natOf
abbrev dN (n : Nat) : PyData := .int (n : Int)
abbrev dX (c : Ex) : PyData := .str (exS c)
def exOf (d : PyData) : Ex := match wayOf d with
  | .x c => c
  | _ => .A
theorem natOf_d (n : Nat) : natOf (dN n) = n := by simp [natOf]
theorem wayOf_d (w : Way) : wayOf (dW w) = w := by
  cases w with
  | h n => simp [wayOf, dW]
  | x c => cases c <;> decide +kernel
theorem exOf_d (c : Ex) : exOf (dX c) = c := by cases c <;> decide +kernel
theorem map_dec {α : Type} {enc : α → PyData} {dec : PyData → α} (h : ∀ a, dec (enc a) = a) (l : List α) : (l.map enc).map dec = l := by
  rw [List.map_map]
  have : dec ∘ enc = id := funext h
  rw [this, List.map_id]
theorem rwOf_d (r : List Way) : rwOf (dR r) = r := map_dec wayOf_d r
theorem hsOf_d (h : House) : hsOf (dH h) = h := map_dec rwOf_d h
theorem sgOf_d (s : Stg) : sgOf (dS s) = s := map_dec natOf_d s
theorem rgD_eq (n : Nat) : rgD n = (List.range n).map dN := rfl
section
variable {X : Cx} {r rb : List (Option PyData)} {elt tg iter tg1 iter1 : Expr} {ifs ifs1 : List Expr} {scope : Scope} {own : List (Str × Nat)} {vs1 : List Nat} {pos : Pos} {g g1 : TG} {u u1 : PyData → List (Option PyData) → List (Option PyData)} {sl sl1 : List Nat} {α β : Type} {enc : α → PyData} {dec : PyData → α} {ns : List α} {pt : α → Bool} {f : α → PyData} {enc1 : β → PyData} {dec1 : PyData → β} {es : α → List β} {pt1 : α → β → Bool} {f2 : α → β → PyData}
theorem el_mapT (hde : ∀ a ∈ ns, dec (enc a) = a) (hc : X.calm = true) (hN : X.N.Nodup) (hi : ITR Same X tg iter r (ns.map enc)) (ok : BlkOk X.N X.env.scope scope own) (hg : Blk X scope fun Y => PG Y tg g) (hr : ∀ a ∈ ns, RdG X.K g (enc a) (u (enc a)) sl) (hsl : ∀ i ∈ sl, i ∈ own.map (·.2))
    (he : ∀ a ∈ ns, Blk X scope fun Y => EV Y elt (u (enc a) (wipeR r (own.map (·.2)))) (f a)) (hf : ∀ a ∈ ns, noL (f a) = true) (hz : ns.length ≤ 100000)
    (hs : ∀ x, foldedSetIterable iter X.env x = pure x := by intro _; rfl) : EVL X (.ListComp elt [⟨tg, iter, [], 0⟩] scope pos) r (ns.map f) := by
  have q := el_map (pos := pos) (f := fun d => f (dec d)) hc hN hi ok hg (fun d hd => by
      obtain ⟨a, ha, rfl⟩ := List.mem_map.mp hd
      exact hr a ha) hsl (fun d hd => by
      obtain ⟨a, ha, rfl⟩ := List.mem_map.mp hd
      rw [hde a ha]
      exact he a ha) (fun d hd => by
      obtain ⟨a, ha, rfl⟩ := List.mem_map.mp hd
      rw [hde a ha]
      exact hf a ha) (by rw [List.length_map]; exact hz) hs
  have e : (ns.map enc).map (fun d => f (dec d)) = ns.map f := by
    rw [List.map_map]
    refine List.map_congr_left fun a ha => ?_
    show f (dec (enc a)) = f a
    rw [hde a ha]
  rw [e] at q
  exact q
theorem fil_dec (hde : ∀ a ∈ ns, dec (enc a) = a) : ((ns.map enc).filter fun d => pt (dec d)).map (fun d => f (dec d)) = (ns.filter pt).map f := by
  induction ns with
  | nil => rfl
  | cons a l ih =>
    have ih := ih fun b hb => hde b (List.mem_cons_of_mem _ hb)
    have e := hde a List.mem_cons_self
    rw [List.map_cons, List.filter_cons, List.filter_cons, e]
    cases pt a with
    | true => simp only [if_true, List.map_cons, ih, e]
    | false => simpa using ih
theorem el_lcT (hde : ∀ a ∈ ns, dec (enc a) = a) (hc : X.calm = true) (hN : X.N.Nodup) (hi : ITR Same X tg iter r (ns.map enc)) (ok : BlkOk X.N X.env.scope scope own) (hg : Blk X scope fun Y => PG Y tg g) (hr : ∀ a ∈ ns, RdG X.K g (enc a) (u (enc a)) sl) (hsl : ∀ i ∈ sl, i ∈ own.map (·.2))
    (ht : ∀ a ∈ ns, Blk X scope fun Y => EVTs Y ifs (u (enc a) (wipeR r (own.map (·.2)))) (pt a)) (he : ∀ a ∈ ns, pt a = true → Blk X scope fun Y => EV Y elt (u (enc a) (wipeR r (own.map (·.2)))) (f a)) (hf : ∀ a ∈ ns, pt a = true → noL (f a) = true) (hz : ns.length ≤ 100000)
    (hs : ∀ x, foldedSetIterable iter X.env x = pure x := by intro _; rfl) : EVL X (.ListComp elt [⟨tg, iter, ifs, 0⟩] scope pos) r ((ns.filter pt).map f) := by
  have q := el_lc (pos := pos) (pt := fun d => pt (dec d)) (f := fun d => f (dec d)) hc hN hi ok hg (fun d hd => by
      obtain ⟨a, ha, rfl⟩ := List.mem_map.mp hd
      exact hr a ha) hsl (fun d hd => by
      obtain ⟨a, ha, rfl⟩ := List.mem_map.mp hd
      rw [hde a ha]
      exact ht a ha) (fun d hd hp => by
      obtain ⟨a, ha, rfl⟩ := List.mem_map.mp hd
      rw [hde a ha] at hp ⊢
      exact he a ha hp) (fun d hd hp => by
      obtain ⟨a, ha, rfl⟩ := List.mem_map.mp hd
      rw [hde a ha] at hp ⊢
      exact hf a ha hp) (by rw [List.length_map]; exact hz) hs
  rw [fil_dec hde] at q
  exact q
/-- what two clauses give -/
def rows2 (ns : List α) (es : α → List β) (pt1 : α → β → Bool) (f2 : α → β → PyData) : List PyData := ns.flatMap fun a => ((es a).filter (pt1 a)).map (f2 a)
theorem rows2_eq (hde : ∀ a ∈ ns, dec (enc a) = a) (hde1 : ∀ a ∈ ns, ∀ b ∈ es a, dec1 (enc1 b) = b) :
    (ns.map enc).flatMap (row2 (fun d => (es (dec d)).map enc1) (fun _ => true) (fun d e => pt1 (dec d) (dec1 e)) fun d e => f2 (dec d) (dec1 e)) = rows2 ns es pt1 f2 := by
  unfold rows2
  induction ns with
  | nil => rfl
  | cons a l ih =>
    have ih := ih (fun b hb => hde b (List.mem_cons_of_mem _ hb)) fun b hb => hde1 b (List.mem_cons_of_mem _ hb)
    have e := hde a List.mem_cons_self
    rw [List.map_cons, List.flatMap_cons, List.flatMap_cons, ih]
    congr 1
    unfold row2
    rw [if_pos rfl]
    dsimp only
    rw [e]
    exact fil_dec (hde1 a List.mem_cons_self)
theorem rows2_len {n m : Nat} (h : ∀ a ∈ ns, (es a).length ≤ m) (hn : ns.length ≤ n) : (rows2 ns es pt1 f2).length ≤ n * m := by
  have q : ∀ l : List α, (∀ a ∈ l, (es a).length ≤ m) → (rows2 l es pt1 f2).length ≤ l.length * m := fun l => by
    induction l with
    | nil => intro _; simp [rows2]
    | cons a l ih =>
      intro h
      have a1 := ih fun b hb => h b (List.mem_cons_of_mem _ hb)
      have a2 : (((es a).filter (pt1 a)).map (f2 a)).length ≤ m := by
        rw [List.length_map]
        exact Nat.le_trans (List.length_filter_le _ _) (h a List.mem_cons_self)
      unfold rows2 at a1 ⊢
      rw [List.flatMap_cons, List.length_append, List.length_cons, Nat.succ_mul]
      omega
  exact Nat.le_trans (q ns h) (Nat.mul_le_mul_right m hn)
theorem el_lc2T {n m : Nat} (hde : ∀ a ∈ ns, dec (enc a) = a) (hde1 : ∀ a ∈ ns, ∀ b ∈ es a, dec1 (enc1 b) = b) (hc : X.calm = true) (hN : X.N.Nodup) (hi : ITR Same X tg iter r (ns.map enc)) (ok : BlkOk X.N X.env.scope scope own) (hv : ∀ i ∈ vs1, i ∈ own.map (·.2)) (hg : Blk X scope fun Y => PG Y tg g) (hg1 : Blk X scope fun Y => PG Y tg1 g1)
    (hsub : Sub rb r) (hr : ∀ a ∈ ns, RdG X.K g (enc a) (u (enc a)) sl) (hsl : ∀ i ∈ sl, i ∈ own.map (·.2)) (hr1 : ∀ a ∈ ns, ∀ b ∈ es a, RdG X.K g1 (enc1 b) (u1 (enc1 b)) sl1) (hsl1 : ∀ i ∈ sl1, i ∈ vs1) (hen : ∀ a ∈ ns, envN (u (enc a) (wipeR rb (own.map (·.2)))) = true)
    (hi1 : ∀ a ∈ ns, Blk X scope fun Y => ITR Tk Y tg1 iter1 (u (enc a) (wipeR rb (own.map (·.2)))) ((es a).map enc1))
    (ht1 : ∀ a ∈ ns, ∀ b ∈ es a, Blk X scope fun Y => EVTs Y ifs1 (u1 (enc1 b) (wipeR (u (enc a) (wipeR rb (own.map (·.2)))) vs1)) (pt1 a b))
    (he : ∀ a ∈ ns, ∀ b ∈ es a, pt1 a b = true → Blk X scope fun Y => EV Y elt (u1 (enc1 b) (wipeR (u (enc a) (wipeR rb (own.map (·.2)))) vs1)) (f2 a b)) (hf : ∀ a ∈ ns, ∀ b ∈ es a, pt1 a b = true → noL (f2 a b) = true)
    (hm : ∀ a ∈ ns, (es a).length ≤ m) (hn : ns.length ≤ n) (hz : n * m ≤ 50000) (hz1 : m ≤ 40000)
    (hs : ∀ x, foldedSetIterable iter X.env x = pure x := by intro _; rfl) (hs1 : ∀ env x, foldedSetIterable iter1 env x = pure x := by intro _ _; rfl) : EVL X (.ListComp elt [⟨tg, iter, [], 0⟩, ⟨tg1, iter1, ifs1, 0⟩] scope pos) r (rows2 ns es pt1 f2) := by
  have q := el_lc2 (pos := pos) (es := fun d => (es (dec d)).map enc1) (pt := fun _ => true) (pt1 := fun d e => pt1 (dec d) (dec1 e)) (f := fun d e => f2 (dec d) (dec1 e)) hc hN hi ok hv hg hg1 hsub (fun d hd => by
      obtain ⟨a, ha, rfl⟩ := List.mem_map.mp hd
      exact hr a ha) hsl (fun d hd e he => by
      obtain ⟨a, ha, rfl⟩ := List.mem_map.mp hd

      rw [hde a ha] at he
      obtain ⟨b, hb, rfl⟩ := List.mem_map.mp he
      exact hr1 a ha b hb) hsl1 (fun d hd => by
      obtain ⟨a, ha, rfl⟩ := List.mem_map.mp hd
      exact hen a ha) (fun d hd _ _ _ _ _ => ets_nil) (fun d hd _ => by
      obtain ⟨a, ha, rfl⟩ := List.mem_map.mp hd
      rw [hde a ha]
      exact hi1 a ha) (fun d hd _ e he => by
      obtain ⟨a, ha, rfl⟩ := List.mem_map.mp hd
      rw [hde a ha] at he ⊢
      obtain ⟨b, hb, rfl⟩ := List.mem_map.mp he
      rw [hde1 a ha b hb]
      exact ht1 a ha b hb) (fun d hd _ e hee hp => by
      obtain ⟨a, ha, rfl⟩ := List.mem_map.mp hd
      rw [hde a ha] at hee hp ⊢
      obtain ⟨b, hb, rfl⟩ := List.mem_map.mp hee
      rw [hde1 a ha b hb] at hp ⊢
      exact he a ha b hb hp) (fun d hd _ e hee hp => by
      obtain ⟨a, ha, rfl⟩ := List.mem_map.mp hd
      rw [hde a ha] at hee hp ⊢
      obtain ⟨b, hb, rfl⟩ := List.mem_map.mp hee
      rw [hde1 a ha b hb] at hp ⊢
      exact hf a ha b hb hp) (fun i => by
      rw [← List.map_take, rows2_eq (fun a ha => hde a (List.mem_of_mem_take ha)) fun a ha => hde1 a (List.mem_of_mem_take ha)]
      exact Nat.le_trans (rows2_len (n := n) (fun a ha => hm a (List.mem_of_mem_take ha)) (Nat.le_trans (by rw [List.length_take]; omega) hn)) hz) (fun d hd => by
      obtain ⟨a, ha, rfl⟩ := List.mem_map.mp hd
      rw [hde a ha, List.length_map]
      exact Nat.le_trans (hm a ha) hz1) hs hs1
  rw [rows2_eq hde hde1] at q
  exact q
end
end TH

namespace TH
open PySem L2 PyProof.Rows
section
variable {K : PySem.W.Frag} {B H H' : Hp} {σ : L2.St} {ρ : List Sl} {γ : List (V × Sl)} {v : V} {x : Sl} {i : Nat} {p : Addr}
/-- a new thing that no slot holds yet -/
theorem At.addN (A : At K B H σ ρ γ) (hp : H p = none) (e : Same H H') (hx : x.adr = some p) (ok : SlOk K B H' (.ref p) x) : At K B H' σ ρ ((.ref p, x) :: γ) := by
  have A' := A.to e
  refine ⟨A'.same, A'.len, A'.ok, fun g hg => ?_, ?_⟩
  · rcases List.mem_cons.mp hg with rfl | hg
    · exact ok
    · exact A'.gh g hg
  · have hz : p ∉ ρ.filterMap Sl.adr ++ γ.filterMap fun g => g.2.adr := fun hm => by
      obtain ⟨_, o, q⟩ := A.live hm
      rw [hp] at q
      cases q
    have e1 : ((V.ref p, x) :: γ).filterMap (fun g => g.2.adr) = p :: γ.filterMap fun g => g.2.adr := List.filterMap_cons_some hx
    rw [e1]
    have q := nodup_put (a := ρ.filterMap Sl.adr) (b := γ.filterMap fun g => g.2.adr) (c := []) (z := p) (by rw [List.append_nil]; exact A.nd) (by rw [List.append_nil]; exact hz)
    rw [List.append_nil] at q
    exact q
/-- it goes into slot i -/
theorem At.take (A : At K B H σ ρ ((v, x) :: γ)) (i : Nat) : At K B H (σ.set i (some v)) (ρ.set i x) γ := by
  have ok := A.gh _ List.mem_cons_self
  have A1 := A.unG
  cases hx : x.adr with
  | none => exact A1.set0 i hx ok
  | some p =>
    refine ⟨A1.same, by simp [A1.len], fun j y q => ?_, A1.gh, ?_⟩
    · by_cases hj : i = j
      · subst hj
        by_cases hl : i < ρ.length
        · rw [List.getElem?_set_self hl] at q
          cases q
          exact .inr ⟨v, List.getElem?_set_self (by rw [A1.len]; exact hl), ok⟩
        · rw [List.getElem?_eq_none (by simpa using hl)] at q
          cases q
      · rw [List.getElem?_set_ne hj] at q ⊢
        exact A1.ok j y q
    · have nd := A.nd
      have e1 : ((v, x) :: γ).filterMap (fun g => g.2.adr) = p :: γ.filterMap fun g => g.2.adr := List.filterMap_cons_some hx
      rw [e1] at nd
      have pm : List.Perm (ρ.filterMap Sl.adr ++ p :: γ.filterMap fun g => g.2.adr) (p :: (ρ.filterMap Sl.adr ++ γ.filterMap fun g => g.2.adr)) := List.perm_middle
      obtain ⟨hz, nd0⟩ := List.nodup_cons.mp (pm.nodup_iff.mp nd)
      rcases fm_setS (f := Sl.adr) (x := x) (z := p) hx ρ i with s | ⟨a, b, s1, s2⟩
      · exact nd0.sublist (s.append (List.Sublist.refl _))
      · rw [s1]
        refine nodup_put (nd0.sublist (s2.append (List.Sublist.refl _))) fun hm => hz ?_
        rcases List.mem_append.mp hm with hm | hm
        · exact List.mem_append.mpr (.inl (s2.subset hm))
        · exact List.mem_append.mpr (.inr hm)
theorem dq_last {ds : List PyData} {d : PyData} : ∀ {vs : List V}, DqAll K H vs (ds ++ [d]) → ∃ us u, vs = us ++ [u] ∧ DqAll K H us ds ∧ Dq K H u d := by
  induction ds with
  | nil =>
    intro vs h
    cases h with
    | cons h t =>
      cases t
      exact ⟨[], _, rfl, .nil, h⟩
  | cons e ds ih =>
    intro vs h
    cases h with
    | cons h t =>
      obtain ⟨us, u, rfl, h1, h2⟩ := ih t
      exact ⟨_ :: us, u, rfl, .cons h h1, h2⟩
/-- what a slot with a thing of one's own says -/
theorem At.obj {o : HO} (A : At K B H σ ρ γ) (hi : ρ[i]? = some (.ob p o)) : σ[i]? = some (some (.ref p)) ∧ H p = some o ∧ B p = none := by
  obtain ⟨w, h1, h2, h3, h4, h5⟩ := (A.ok i _ hi).resolve_left (by intro z; cases z)
  subst h2
  exact ⟨h1, h5, h3⟩
theorem At.lst {ds : List PyData} (A : At K B H σ ρ γ) (hi : ρ[i]? = some (.ml p ds)) : σ[i]? = some (some (.ref p)) ∧ (∃ vs, H p = some (.lst vs) ∧ DqAll K H vs ds) ∧ B p = none ∧ noLs ds = true := by
  obtain ⟨w, h1, h2, h3, h4, vs, h5, h6⟩ := (A.ok i _ hi).resolve_left (by intro z; cases z)
  subst h2
  exact ⟨h1, ⟨vs, h5, h6⟩, h3, h4⟩
theorem At.dat {d : PyData} (A : At K B H σ ρ γ) (hi : ρ[i]? = some (.im d)) : ∃ w, σ[i]? = some (some w) ∧ Dq K H w d := by
  obtain ⟨w, h1, h2⟩ := (A.ok i _ hi).resolve_left (by intro z; cases z)
  refine ⟨w, h1, ?_⟩
  rcases h2 with h2 | ⟨h2, _⟩
  · exact dp_same A.same h2
  · exact h2
end
section
variable {X : Cx} {rest : List Stmt} {D : Ends} {σ : L2.St} {B H : Hp} {ρ ρ1 : List Sl} {γ : List (V × Sl)} {c tg iter e : Expr} {body els : List Stmt} {pos py : Pos} {x : Str} {ds : List PyData} {g : TG} {u : PyData → List Sl → List Sl} {Iv : Nat → List Sl → Prop}
theorem eqv_mapL {α : Type} [DecidableEq α] {f : α → PyData} (h : ∀ a b, PyData.eqv (f a) (f b) = decide (a = b)) (l m : List α) : PyData.eqv (.list (l.map f)) (.list (m.map f)) = decide (l = m) := by
  rw [PyData.eqv]
  exact eqvAll_map h l m
theorem eqv_mapT {α : Type} [DecidableEq α] {f : α → PyData} (h : ∀ a b, PyData.eqv (f a) (f b) = decide (a = b)) (l m : List α) : PyData.eqv (.tuple (l.map f)) (.tuple (m.map f)) = decide (l = m) := by
  rw [PyData.eqv]
  exact eqvAll_map h l m
theorem sh_mapL {α : Type} {n : Nat} {f : α → PyData} (h : ∀ a, Sh n (f a)) (l : List α) (hn : n < 64 := by decide) : SeqAt.shaped (.list (l.map f)) = true := (sh_lst (sh_map h l)).shaped hn
theorem sh_mapT {α : Type} {n : Nat} {f : α → PyData} (h : ∀ a, Sh n (f a)) (l : List α) (hn : n < 64 := by decide) : SeqAt.shaped (.tuple (l.map f)) = true := (sh_tup (sh_map h l)).shaped hn
/-- for over a tuple that an expression with effects gives -/
theorem go_forX {t : TE} (pe : PE X iter t) (rd : ∀ Q : VK, (∀ v H1, At X.K B H1 σ ρ1 γ → Dq X.K H1 v (.tuple ds) → Q v H1) → t σ H Q) (hp : PassesOwn (model X.prog X.w) X.A X.env X.xe) (hc : X.calm = true) (hn : noLs ds = true) (hg : PG X tg g) (hr : ∀ d ∈ ds, RdA X.K g d (u d)) (h0 : Iv 0 ρ1)
    (step : ∀ γ' i d ρ' σ' H', ds[i]? = some d → Iv i ρ' → At X.K B H' σ' (u d ρ') γ' → GO X body { D with nx := NX X.K B γ' (Iv (i + 1)), ct := NX X.K B γ' (Iv (i + 1)), bk := fun σ H => GO X rest D σ H } σ' H') (done : ∀ ρ' σ' H', Iv ds.length ρ' → At X.K B H' σ' ρ' γ → GO X rest D σ' H')
    (hs : ∀ x, foldedSetIterable iter X.env x = pure x := by intro _; rfl) : GO X (.For tg iter body [] pos :: rest) D σ H := by
  refine go_cons (ps_for hp hc (pi_tup pe) hg pss_any hs) (rd _ fun v H1 A dv => ?_)
  have A1 : At X.K B H1 σ ρ1 ((v, .im (.tuple ds)) :: γ) := A.addG (.inr ⟨dv, by simpa [noL] using hn⟩) rfl
  cases dv with
  | @tup a0 xs0 _ hq ha =>
    refine ⟨_, rfl, ⟨_, hq⟩, for_core (G := fun H => Dq X.K H (.ref a0) (.tuple ds)) ⟨fun i H2 gd hi => ?_, fun H2 gd => ?_, fun i H2 y H3 gd hi hy => ?_⟩ hn A1 h0 (fun i ρ' σ' H' _ A' => ?_) hr (fun i d ρ' σ' H' hd hv A' => step _ i d ρ' σ' H' hd hv A') fun ρ' σ' H' hv A' => done ρ' σ' H' hv A'.unG⟩
    · cases gd with
      | tup q1 q2 =>
        rw [← q2.length] at hi
        exact walk_tup.goes i H2 hi q1
    · cases gd with
      | tup q1 q2 =>
        rw [← q2.length]
        exact walk_tup.stops H2 q1
    · cases gd with
      | tup q1 q2 =>
        rw [← q2.length] at hi
        obtain ⟨h1, h2⟩ := walk_tup.yields i H2 y H3 hi q1 hy
        subst h1
        obtain ⟨d, h3, h4⟩ := q2.get h2
        exact ⟨Same.refl _, d, h3, h4⟩
    · rcases A'.gh _ List.mem_cons_self with h | ⟨h, _⟩
      · exact dp_same A'.same h
      · exact h
/-- if, by a test that sees more than data -/
theorem go_ifX {t : TT} {R : Bool → Prop} (pt : PT X c t) (rd : ∀ Q : Bool → Hp → Prop, (∀ b H1, At X.K B H1 σ ρ1 γ → R b → Q b H1) → t σ H Q) (h1 : R true → ∀ H', At X.K B H' σ ρ1 γ → GO X body { D with nx := fun σ H => GO X rest D σ H } σ H') (h2 : R false → ∀ H', At X.K B H' σ ρ1 γ → GO X els { D with nx := fun σ H => GO X rest D σ H } σ H') : GO X (.If c body els pos :: rest) D σ H :=
  go_cons (ps_if pt pss_any pss_any) (rd _ fun b H' A r => by
    cases b with
    | true => exact iteT (h1 r H' A)
    | false => exact iteF (h2 r H' A))
end
end TH

namespace TH
open PySem L2 PyProof.Rows
/-! ## the town, a list that draws change -/
/-- H, but nothing is known of t -/
def wo (H : Hp) (t : Addr) : Hp := fun a => if a = t then none else H a
theorem wo_ne {H : Hp} {t a : Addr} (h : a ≠ t) : wo H t a = H a := by
  unfold wo
  rw [if_neg h]
theorem wo_at {H : Hp} {t : Addr} : wo H t t = none := by
  unfold wo
  rw [if_pos rfl]
theorem wo_le {H : Hp} {t : Addr} : Same (wo H t) H := fun a o h => by
  by_cases e : a = t
  · subst e
    rw [wo_at] at h
    cases h
  · rw [wo_ne e] at h
    exact h
theorem same_wo {B H : Hp} {t : Addr} (e : Same B H) (hb : B t = none) : Same B (wo H t) := fun a o h => by
  have : a ≠ t := fun z => by
    subst z
    rw [hb] at h
    cases h
  rw [wo_ne this]
  exact e a o h
theorem tk_wo {H : Hp} {t : Addr} {vs : List V} (h : H t = some (.lst vs)) : Tk H (wo H t) := by
  refine ⟨fun a xs q => ?_, fun a o u q => ?_⟩
  · rw [wo_ne (fun z => by subst z; rw [h] at q; cases q)]
    exact q
  · rw [wo_ne (fun z => by subst z; rw [h] at q; cases q)]
    exact q
theorem same_back {H H' : Hp} {t : Addr} {o : HO} (e : Same (wo H t) H') (h : H' t = some o) : Same (upd H t o) H' := fun a u q => by
  by_cases z : a = t
  · subst z
    rw [upd_same] at q
    cases q
    exact h
  · rw [upd_ne z] at q
    exact e a u (by rw [wo_ne z]; exact q)
/-- its first number is at most c, n more numbers follow -/
def Tw (n c : Nat) (ds : List PyData) : Prop := ∃ (a : Nat) (ns : List Int), a ≤ c ∧ ns.length = n ∧ ds = .int a :: ns.map .int
theorem Tw.le {n c c' : Nat} {ds : List PyData} (h : Tw n c ds) (hc : c ≤ c') : Tw n c' ds := by
  obtain ⟨a, ns, h1, h2, h3⟩ := h
  exact ⟨a, ns, by omega, h2, h3⟩
theorem Tw.ints {n c : Nat} {ds : List PyData} (h : Tw n c ds) : ∃ ns : List Int, ds = ns.map .int := by
  obtain ⟨a, ns, _, _, h3⟩ := h
  exact ⟨(a : Int) :: ns, by rw [h3]; rfl⟩
theorem Tw.noL {n c : Nat} {ds : List PyData} (h : Tw n c ds) : noLs ds = true := by
  obtain ⟨ns, rfl⟩ := h.ints
  exact noLs_iff.mpr fun d hd => by
    obtain ⟨a, _, rfl⟩ := List.mem_map.mp hd
    rfl
theorem dq_ints {K : PySem.W.Frag} {H : Hp} (ns : List Int) : DqAll K H (ns.map V.int) (ns.map .int) := by
  induction ns with
  | nil => exact .nil
  | cons a l ih => exact .cons (.int a) ih
theorem Tw.any {K : PySem.W.Frag} {H H' : Hp} {n c : Nat} {ds : List PyData} {ws : List V} (h : Tw n c ds) (d : DqAll K H ws ds) : DqAll K H' ws ds := by
  obtain ⟨ns, rfl⟩ := h.ints
  rw [d.ints]
  exact dq_ints ns
section
variable {K : PySem.W.Frag} {B H H' : Hp} {σ : L2.St} {ρ : List Sl} {γ : List (V × Sl)} {v : V} {x : Sl} {i n c : Nat} {d : PyData} {t : Addr} {ds ds' : List PyData}
theorem At.town {ws : List V} (A : At K B H σ (ρ.set i (.ml t ds)) γ) (hi : i < ρ.length) (e : Same (wo H t) H') (h : H' t = some (.lst ws)) (tw : Tw n c ds') (dw : DqAll K H' ws ds') : At K B H' σ (ρ.set i (.ml t ds')) γ := by
  have A1 := A.mut (i := i) (p := t) (ds := ds) (es := ds') (ws := ws) (List.getElem?_set_self hi) (tw.any dw) tw.noL
  rw [List.set_set] at A1
  exact A1.to (same_back e h)
/-- a datum of things other than t -/
theorem SlOk.wo {ds : List PyData} (ok : SlOk K B H v (.im d)) (hb : B t = none) {vs : List V} (h : H t = some (.lst vs)) (e : Same B H) : Dq K (TH.wo H t) v d := by
  rcases ok with ok | ⟨ok, hn⟩
  · exact dp_same (same_wo e hb) ok
  · exact dp_tk (tk_wo h) ok hn
theorem At.townAt (A : At K B H σ (ρ.set i (.ml t ds)) γ) (hi : i < ρ.length) : σ[i]? = some (some (.ref t)) ∧ (∃ vs, H t = some (.lst vs) ∧ DqAll K H vs ds) ∧ B t = none := by
  obtain ⟨h1, h2, h3, _⟩ := A.lst (i := i) (List.getElem?_set_self hi)
  exact ⟨h1, h2, h3⟩
/-- where a def with a town starts -/
theorem At.startT {v : V} {vs : List V} {sa : Addr} {ss : List Int} (hN : 3 ≤ n) (h0 : SqL K (wo H t) sa (ss.map V.int)) (h1 : H t = some (.lst vs)) (h2 : DqAll K H vs ds) (hn : noLs ds = true) (h3 : Dq K (wo H t) v d) : At K (wo H t) H ([some (.ref sa), some (.ref t), some v] ++ List.replicate (n - 3) none) ([.sc sa ss, .ml t ds, .im d] ++ List.replicate (n - 3) .no) [] := by
  refine ⟨wo_le, by simp, fun j x q => ?_, (fun g hg => nomatch hg), ?_⟩
  · match j with
    | 0 =>
      cases q
      exact .inr ⟨.ref sa, rfl, rfl, h0⟩
    | 1 =>
      cases q
      exact .inr ⟨.ref t, rfl, rfl, wo_at, hn, vs, h1, h2⟩
    | 2 =>
      cases q
      exact .inr ⟨v, rfl, .inl h3⟩
    | j + 3 =>
      have := List.mem_of_getElem? (by simpa using q : (List.replicate (n - 3) Sl.no)[j]? = some x)
      exact .inl (List.eq_of_mem_replicate this)
  · have : (List.replicate (n - 3) Sl.no).filterMap Sl.adr = [] := by
      rw [List.filterMap_eq_nil_iff]
      intro x hx
      rw [List.eq_of_mem_replicate hx]
      rfl
    rw [List.filterMap_append, this]
    simp [List.filterMap, Sl.adr]
end
/-! ## expressions that draw -/
/-- a datum with R -/
def IM (R : PyData → Prop) : Sl → Prop := fun x => ∃ d, x = .im d ∧ R d
/-- a new list with R -/
def ML (R : List PyData → Prop) : Sl → Prop := fun x => ∃ p ds, x = .ml p ds ∧ R ds
def CR (Ra : PyData → Prop) (R : PyData → PyData → Prop) : PyData → Prop := fun z => ∃ d, Ra d ∧ R d z
def IS (d : PyData) : PyData → Prop := (· = d)
def LS (R : List PyData → Prop) : PyData → Prop := fun d => ∃ ds, d = .list ds ∧ R ds
def EXP (K : PySem.W.Frag) (B : Hp) (σ : L2.St) (i : Nat) (t : Addr) (n c : Nat) (ρ : List Sl) (γ : List (V × Sl)) (R : Sl → Prop) : VK := fun v H' => ∃ x ds', R x ∧ Tw n c ds' ∧ At K B H' σ (ρ.set i (.ml t ds')) ((v, x) :: γ)
/-- slot i holds the town; k: how often e draws at most -/
structure EX (X : Cx) (i n k : Nat) (e : Expr) (ρ : List Sl) (R : Sl → Prop) : Prop where
  run : ∀ (t : Addr) (ds : List PyData) (c : Nat) (B : Hp) (γ : List (V × Sl)) (pins : List (Addr × Obj)) (s : Shared) (σ : L2.St) (H : Hp), c + k ≤ 2 ^ 60 → Tw n c ds → At X.K B H σ (ρ.set i (.ml t ds)) γ → Inv X pins σ H s → wpAny (model X.prog X.w) X.A (eval e X.env) (EP X pins σ (EXP X.K B σ i t n (c + k) ρ γ R)) X.xe s
/-- the same for an argument: it is used at once -/
structure EA (X : Cx) (i n k : Nat) (e : Expr) (ρ : List Sl) (R : PyData → Prop) : Prop where
  run : ∀ (t : Addr) (ds : List PyData) (c : Nat) (B : Hp) (γ : List (V × Sl)) (pins : List (Addr × Obj)) (s : Shared) (σ : L2.St) (H : Hp), c + k ≤ 2 ^ 60 → Tw n c ds → At X.K B H σ (ρ.set i (.ml t ds)) γ → Inv X pins σ H s → wpAny (model X.prog X.w) X.A (eval e X.env) (EP X pins σ (fun v H' => ∃ d ds', R d ∧ Tw n (c + k) ds' ∧ At X.K B H' σ (ρ.set i (.ml t ds')) γ ∧ Dq X.K (wo H' t) v d)) X.xe s
/-- and for a test -/
structure ETX (X : Cx) (i n k : Nat) (e : Expr) (ρ : List Sl) (R : Bool → Prop) : Prop where
  run : ∀ (t : Addr) (ds : List PyData) (c : Nat) (B : Hp) (γ : List (V × Sl)) (pins : List (Addr × Obj)) (s : Shared) (σ : L2.St) (H : Hp), c + k ≤ 2 ^ 60 → Tw n c ds → At X.K B H σ (ρ.set i (.ml t ds)) γ → Inv X pins σ H s → wpAny (model X.prog X.w) X.A (isTrue e X.env (eval e X.env)) (TP X pins σ (fun b H' => ∃ ds', R b ∧ Tw n (c + k) ds' ∧ At X.K B H' σ (ρ.set i (.ml t ds')) γ)) X.xe s
section
variable {X : Cx} {i n k k' kk c : Nat} {e a b : Expr} {ρ : List Sl} {R R1 R2 : Sl → Prop} {B H : Hp} {σ : L2.St} {γ : List (V × Sl)} {t : Addr} {ds : List PyData} {d : PyData} {pos p : Pos} {Q : VK}
theorem EX.use (h : EX X i n k e ρ R) (hc : c + k ≤ 2 ^ 60) (tw : Tw n c ds) (A : At X.K B H σ (ρ.set i (.ml t ds)) γ) (q : ∀ v x ds' H', R x → Tw n (c + k) ds' → At X.K B H' σ (ρ.set i (.ml t ds')) ((v, x) :: γ) → Q v H') : tE X e σ H Q := fun pins s I =>
  thn (h.run t ds c B γ pins s σ H hc tw A I) fun u s' ⟨v, H', I', rv, x, ds', h1, h2, h3⟩ => ⟨v, H', I', rv, q v x ds' H' h1 h2 h3⟩
theorem EX.mk' {tt : TE} (pe : PE X e tt) (h : ∀ (t : Addr) (ds : List PyData) (c : Nat) (B : Hp) (γ : List (V × Sl)) (σ : L2.St) (H : Hp), c + k ≤ 2 ^ 60 → Tw n c ds → At X.K B H σ (ρ.set i (.ml t ds)) γ → tt σ H (EXP X.K B σ i t n (c + k) ρ γ R)) : EX X i n k e ρ R :=
  ⟨fun t ds c B γ pins s σ H hc tw A I => pe.run pins s σ H _ I (h t ds c B γ σ H hc tw A)⟩
theorem EA.use {R : PyData → Prop} (h : EA X i n k e ρ R) (hc : c + k ≤ 2 ^ 60) (tw : Tw n c ds) (A : At X.K B H σ (ρ.set i (.ml t ds)) γ) (q : ∀ v d ds' H', R d → Tw n (c + k) ds' → At X.K B H' σ (ρ.set i (.ml t ds')) γ → Dq X.K (wo H' t) v d → Q v H') : tE X e σ H Q := fun pins s I =>
  thn (h.run t ds c B γ pins s σ H hc tw A I) fun u s' ⟨v, H', I', rv, x, ds', h1, h2, h3, h4⟩ => ⟨v, H', I', rv, q v x ds' H' h1 h2 h3 h4⟩
theorem EA.mk' {R : PyData → Prop} {tt : TE} (pe : PE X e tt) (h : ∀ (t : Addr) (ds : List PyData) (c : Nat) (B : Hp) (γ : List (V × Sl)) (σ : L2.St) (H : Hp), c + k ≤ 2 ^ 60 → Tw n c ds → At X.K B H σ (ρ.set i (.ml t ds)) γ → tt σ H (fun v H' => ∃ d ds', R d ∧ Tw n (c + k) ds' ∧ At X.K B H' σ (ρ.set i (.ml t ds')) γ ∧ Dq X.K (wo H' t) v d)) : EA X i n k e ρ R :=
  ⟨fun t ds c B γ pins s σ H hc tw A I => pe.run pins s σ H _ I (h t ds c B γ σ H hc tw A)⟩
theorem ETX.use {R : Bool → Prop} {Q : Bool → Hp → Prop} (h : ETX X i n k e ρ R) (hc : c + k ≤ 2 ^ 60) (tw : Tw n c ds) (A : At X.K B H σ (ρ.set i (.ml t ds)) γ) (q : ∀ b ds' H', R b → Tw n (c + k) ds' → At X.K B H' σ (ρ.set i (.ml t ds')) γ → Q b H') : tT X e σ H Q := fun pins s I =>
  thn (h.run t ds c B γ pins s σ H hc tw A I) fun u s' ⟨H', I', ds', h1, h2, h3⟩ => ⟨H', I', q u ds' H' h1 h2 h3⟩
theorem ETX.mk' {R : Bool → Prop} {tt : TT} (pe : PT X e tt) (h : ∀ (t : Addr) (ds : List PyData) (c : Nat) (B : Hp) (γ : List (V × Sl)) (σ : L2.St) (H : Hp), c + k ≤ 2 ^ 60 → Tw n c ds → At X.K B H σ (ρ.set i (.ml t ds)) γ → tt σ H (fun b H' => ∃ ds', R b ∧ Tw n (c + k) ds' ∧ At X.K B H' σ (ρ.set i (.ml t ds')) γ)) : ETX X i n k e ρ R :=
  ⟨fun t ds c B γ pins s σ H hc tw A I => pe.run pins s σ H _ I (h t ds c B γ σ H hc tw A)⟩
theorem EX.weak (h : EX X i n k e ρ R1) (hr : ∀ x, R1 x → R2 x) (hk : k ≤ k' := by omega) : EX X i n k' e ρ R2 := .mk' pe_any fun t ds c B γ σ H hc tw A => h.use (by omega) tw A fun v x ds' H' h1 h2 h3 => ⟨x, ds', hr x h1, h2.le (by omega), h3⟩
/-- what does not draw -/
theorem At.envT (A : At X.K B H σ (ρ.set i (.ml t ds)) γ) : EnvD X.K H σ ((ρ.set i .no).map view) := by
  have := (A.drop i).envD
  rw [List.set_set] at this
  exact this
theorem ex_ev (h : EV X e ((ρ.set i .no).map view) d) (hn : noL d = true) : EX X i n 0 e ρ (IM (IS d)) := .mk' pe_any fun t ds c B γ σ H hc tw A => h.use A.envT fun v H' e1 dv => ⟨_, ds, ⟨d, rfl, rfl⟩, tw, (A.to e1).addG (.inr ⟨dv, hn⟩) rfl⟩
theorem ex_evL {es : List PyData} (h : EVL X e ((ρ.set i .no).map view) es) (hn : noLs es = true) : EX X i n 0 e ρ (ML (· = es)) := .mk' pe_any fun t ds c B γ σ H hc tw A => h.use A.envT fun p vs H' e0 e1 e2 dv => ⟨_, ds, ⟨p, es, rfl, rfl⟩, tw, A.addL e0 e1 e2 dv hn⟩
theorem etx_ev {b : Bool} (h : EVT X e ((ρ.set i .no).map view) b) : ETX X i n 0 e ρ (· = b) := .mk' pt_any fun t ds c B γ σ H hc tw A => h.use A.envT fun H' e1 => ⟨ds, rfl, tw, A.to e1⟩
/-- the values of γ -/
theorem At.g0 {v : V} (A : At X.K B H σ ρ ((v, .im d) :: γ)) : Dq X.K H v d := by
  rcases A.gh _ List.mem_cons_self with h | ⟨h, _⟩
  · exact dp_same A.same h
  · exact h
theorem At.g1 {v : V} {g : V × Sl} (A : At X.K B H σ ρ (g :: (v, .im d) :: γ)) : Dq X.K H v d := A.unG.g0
theorem ex_bin {op : Operator} {R : PyData → Prop} {Ra Rb : PyData → Prop} (ha : EX X i n k a ρ (IM Ra)) (hb : EX X i n k' b ρ (IM Rb)) (ho : ∀ d e, Ra d → Rb e → ∃ z, OpD X (binaryOp op) d e z ∧ noL z = true ∧ R z) (hkk : kk = k + k' := by rfl) : EX X i n kk (.BinOp a op b pos) ρ (IM R) :=
  ⟨fun t ds c B γ pins s σ H hc tw A I => by
    refine (pe_op (op := op) (r := fun x y H Q => ∃ d e z, OpD X (binaryOp op) d e z ∧ Dq X.K H x d ∧ Dq X.K H y e ∧ ∀ v H', Same H H' → Dq X.K H' v z → Q v H') (fun pins s σ H x y u v Q I rx ry ⟨d, e, z, o, dx, dy, q⟩ => o.opR pins s σ H x y u v Q I rx ry ⟨dx, dy, q⟩) pe_any pe_any).run pins s σ H _ I ?_
    refine ha.use (by omega) tw A fun v x ds1 H1 ⟨d1, hx, r1⟩ tw1 A1 => ?_
    subst hx
    refine hb.use (by omega) tw1 A1 fun v2 y ds2 H2 ⟨d2, hy, r2⟩ tw2 A2 => ?_
    subst hy
    obtain ⟨z, o, hn, hz⟩ := ho d1 d2 r1 r2
    exact ⟨d1, d2, z, o, A2.g1, A2.g0, fun v3 H3 e3 d3 => ⟨_, ds2, ⟨z, rfl, hz⟩, tw2.le (by omega), (A2.unG.unG.to e3).addG (.inr ⟨d3, hn⟩) rfl⟩⟩⟩
theorem etx_cmp {op : CmpOp} {R : Bool → Prop} {Ra Rb : PyData → Prop} (ha : EX X i n k a ρ (IM Ra)) (hb : EX X i n k' b ρ (IM Rb)) (ho : ∀ d e, Ra d → Rb e → ∃ z, OpD X (compareOp op) d e (.bool z) ∧ R z) (hm : behindInMarks op b = false) (hkk : kk = k + k' := by rfl) : ETX X i n kk (.Compare a [op] [b] pos) ρ R :=
  ⟨fun t ds c B γ pins s σ H hc tw A I => by
    refine (pt_cmpR (op := op) (r := fun x y H Q => ∃ d e z, OpD X (compareOp op) d e z ∧ Dq X.K H x d ∧ Dq X.K H y e ∧ ∀ v H', Same H H' → Dq X.K H' v z → Q v H') (fun pins s σ H x y u v Q I rx ry ⟨d, e, z, o, dx, dy, q⟩ => o.opR pins s σ H x y u v Q I rx ry ⟨dx, dy, q⟩) pe_any pe_any hm).run pins s σ H _ I ?_
    refine ha.use (by omega) tw A fun v x ds1 H1 ⟨d1, hx, r1⟩ tw1 A1 => ?_
    subst hx
    refine hb.use (by omega) tw1 A1 fun v2 y ds2 H2 ⟨d2, hy, r2⟩ tw2 A2 => ?_
    subst hy
    obtain ⟨z, o, hz⟩ := ho d1 d2 r1 r2
    refine ⟨d1, d2, _, o, A2.g1, A2.g0, fun v3 H3 e3 d3 => ?_⟩
    cases d3
    exact ⟨_, rfl, ds2, hz, tw2.le (by omega), A2.unG.unG.to e3⟩⟩
theorem ea_ex {Ra : PyData → Prop} (h : EX X i n k e ρ (IM Ra)) (hi : i < ρ.length) : EA X i n k e ρ Ra := .mk' pe_any fun t ds c B γ σ H hc tw A => h.use hc tw A fun v x ds' H' ⟨d, hx, r⟩ tw' A' => by
  subst hx
  obtain ⟨_, ⟨vs, h1, _⟩, h2⟩ := A'.townAt hi
  exact ⟨d, ds', r, tw', A'.unG, SlOk.wo (ds := ds) (A'.gh _ List.mem_cons_self) h2 h1 A'.same⟩
theorem ea_ev (h : EV X e ((ρ.set i .no).map view) d) (hn : noL d = true) (hi : i < ρ.length) : EA X i n 0 e ρ (IS d) := ea_ex (ex_ev h hn) hi
theorem ea_lst {Ra : List PyData → Prop} (h : EX X i n k e ρ (ML Ra)) (hi : i < ρ.length) : EA X i n k e ρ (LS Ra) := .mk' pe_any fun t ds c B γ σ H hc tw A => h.use hc tw A fun v x ds' H' ⟨p, es, hx, r⟩ tw' A' => by
  subst hx
  obtain ⟨_, ⟨vs, h1, _⟩, h2⟩ := A'.townAt hi
  obtain ⟨g1, g2, g3, ws, g4, g5⟩ := A'.gh _ List.mem_cons_self
  have hp : p ≠ t := by
    have := A'.nd
    intro z
    subst z
    have hm : p ∈ (ρ.set i (.ml p ds')).filterMap Sl.adr := List.mem_filterMap.mpr ⟨_, List.mem_of_getElem? (List.getElem?_set_self hi), rfl⟩
    exact (List.nodup_append.mp this).2.2 p hm p (List.mem_filterMap.mpr ⟨_, List.mem_cons_self, rfl⟩) rfl
  dsimp only at g1
  subst g1
  exact ⟨_, ds', ⟨es, rfl, r⟩, tw', A'.unG, .lst (by rw [wo_ne hp]; exact g4) (dps_tk (tk_wo h1) g5 g3)⟩
/-- the list in slot j -/
theorem ea_own {j : Nat} {x : Str} {pn : Pos} {q : Addr} {es : List PyData} (hj : ρ[j]? = some (.ml q es)) (hij : i ≠ j) (hi : i < ρ.length) (hN : X.N[j]? = some x) (hv : Vis X.env.scope x) (hd : (x == ("__debug__" : Str)) = false := by decide) (hcd : (x == ("__classdict__" : Str)) = false := by decide) : EA X i n 0 (.Name x pn) ρ (IS (.list es)) := .mk' (pe_var hN hv hd hcd) fun t ds c B γ σ H hc tw A => by
  obtain ⟨_, ⟨vs, h1, _⟩, h2⟩ := A.townAt hi
  obtain ⟨g1, ⟨ws, g2, g3⟩, g4, g5⟩ := A.lst (i := j) (p := q) (ds := es) (by rw [List.getElem?_set_ne hij]; exact hj)
  have hp : q ≠ t := by
    intro z
    subst z
    have nd := A.nd
    have split : ∀ (l : List Sl) (i j : Nat), i < j → l[i]? = some (.ml q ds) → l[j]? = some (.ml q es) → ¬ (l.filterMap Sl.adr).Nodup := by
      intro l
      induction l with
      | nil => intro i j _ h; simp at h
      | cons y l ih =>
        intro i j hij h1 h2 nd
        cases j with
        | zero => omega
        | succ j =>
          cases i with
          | zero =>
            simp at h1
            subst h1
            rw [List.filterMap_cons_some (show Sl.adr (.ml q ds) = some q from rfl)] at nd
            exact (List.nodup_cons.mp nd).1 (List.mem_filterMap.mpr ⟨_, List.mem_of_getElem? (by simpa using h2), rfl⟩)
          | succ i => exact ih i j (by omega) (by simpa using h1) (by simpa using h2) (nd.sublist ((List.sublist_cons_self y l).filterMap _))
    have split2 : ∀ (l : List Sl) (i j : Nat), j < i → l[i]? = some (.ml q ds) → l[j]? = some (.ml q es) → ¬ (l.filterMap Sl.adr).Nodup := by
      intro l
      induction l with
      | nil => intro i j _ h; simp at h
      | cons y l ih =>
        intro i j hij h1 h2 nd
        cases i with
        | zero => omega
        | succ i =>
          cases j with
          | zero =>
            simp at h2
            subst h2
            rw [List.filterMap_cons_some (show Sl.adr (.ml q es) = some q from rfl)] at nd
            exact (List.nodup_cons.mp nd).1 (List.mem_filterMap.mpr ⟨_, List.mem_of_getElem? (by simpa using h1), rfl⟩)
          | succ j => exact ih i j (by omega) (by simpa using h1) (by simpa using h2) (nd.sublist ((List.sublist_cons_self y l).filterMap _))
    have nd1 := (List.nodup_append.mp nd).1
    rcases Nat.lt_or_gt_of_ne hij with z | z
    · exact split _ i j z (List.getElem?_set_self hi) (by rw [List.getElem?_set_ne hij]; exact hj) nd1
    · exact split2 _ i j z (List.getElem?_set_self hi) (by rw [List.getElem?_set_ne hij]; exact hj) nd1
  exact ⟨_, g1, _, ds, rfl, tw, A, .lst (by rw [wo_ne hp]; exact g2) (dps_tk (tk_wo h1) g3 g5)⟩
theorem ex_ixV {j : Nat} {x : Str} {Rb R : PyData → Prop} (hj : ((ρ.set i .no).map view)[j]? = some (some d)) (hN : X.N[j]? = some x) (hv : Vis X.env.scope x) (hb : EX X i n k b ρ (IM Rb)) (ho : ∀ e, Rb e → ∃ z, IxD X d e z ∧ noL z = true ∧ R z) (hs : PlainIx b := by intro _ _; rfl) (hd : (x == ("__debug__" : Str)) = false := by decide) (hcd : (x == ("__classdict__" : Str)) = false := by decide) : EX X i n k (.Subscript (.Name x p) b pos) ρ (IM R) := by
  refine .mk' (pe_ix (r := fun x y H Q => ∃ t : L2.R2, IxR X t ∧ t x y H Q) (fun va sl pins s σ H x y u v Q I rx ry ⟨t, ht, h⟩ => ht va sl pins s σ H x y u v Q I rx ry h) (pe_var hN hv hd hcd) pe_any hs) fun t ds c B γ σ H hc tw A => ?_
  obtain ⟨v, h1, _⟩ := A.envT.get j d hj
  refine ⟨v, h1, hb.use hc tw A fun v1 x1 ds1 H1 ⟨e, hx, r⟩ tw1 A1 => ?_⟩
  subst hx
  obtain ⟨v', h1', dv⟩ := A1.envT.get j d hj
  rw [h1] at h1'
  cases h1'
  obtain ⟨z, ⟨t2, ht2, ix⟩, hn, hz⟩ := ho e r
  exact ⟨t2, ht2, ix v v1 H1 dv A1.g0 _ fun w H2 e2 dw => ⟨_, ds1, ⟨z, rfl, hz⟩, tw1, (A1.unG.to e2).addG (.inr ⟨dw, hn⟩) rfl⟩⟩
/-- the promise of a def that draws: Pr of the third argument, R of it and the result, at most k draws -/
def spT (K : PySem.W.Frag) (k : Nat) (Pr : PyData → Prop) (R : PyData → PyData → Prop) : Sp := fun vs H Q _ => ∃ (n c : Nat) (sa t : Addr) (v : V) (ss : List Int) (d : PyData) (ws : List V) (ds : List PyData), vs = [.ref sa, .ref t, v] ∧ c + k ≤ 2 ^ 60 ∧ n ≤ 63 ∧ ss.length = n ∧ SqL K (wo H t) sa (ss.map V.int) ∧ Dq K (wo H t) v d ∧ Pr d ∧ H t = some (.lst ws) ∧ DqAll K H ws ds ∧ Tw n c ds ∧
  ∀ v' H' ws' ds' z, Same (wo H t) H' → H' t = some (.lst ws') → DqAll K H' ws' ds' → Tw n (c + k) ds' → Dq K H' v' z → noL z = true → R d z → Q v' H'
theorem ex_callT {Pr Ra : PyData → Prop} {R : PyData → PyData → Prop} {k2 lv : Nat} {f x y : Str} {p1 p2 : Pos} {j : Nat} {sa : Addr} {ss : List Int} (F : FnD X.prog X.w X.K X.mg X.base lv f (spT X.K k Pr R)) (hr : Room lv X.A) (hg : Gl X f) (hi : i < ρ.length) (hj : ρ[j]? = some (.sc sa ss)) (hs : ss.length = n) (h63 : n ≤ 63) (hij : i ≠ j) (hNj : X.N[j]? = some x) (hvj : Vis X.env.scope x) (hNi : X.N[i]? = some y) (hvi : Vis X.env.scope y)
    (h3 : EA X i n k2 e ρ Ra) (hpr : ∀ d, Ra d → Pr d) (hdb : (f == ("__debug__" : Str)) = false := by decide) (he : starEach [.Name x p1, .Name y p2, e] X.env = (false, eval (.Name x p1) X.env) :: starEach [.Name y p2, e] X.env := by rfl) (he2 : starEach [.Name y p2, e] X.env = (false, eval (.Name y p2) X.env) :: starEach [e] X.env := by rfl) (he3 : starEach [e] X.env = (false, eval e X.env) :: starEach [] X.env := by rfl) (hpl : (backTo pos (starEach [.Name y p2, e] X.env)).any (·.1) = false := by rfl)
    (hd1 : (x == ("__debug__" : Str)) = false := by decide) (hcd1 : (x == ("__classdict__" : Str)) = false := by decide) (hd2 : (y == ("__debug__" : Str)) = false := by decide) (hcd2 : (y == ("__classdict__" : Str)) = false := by decide) (hkk : kk = k2 + k := by rfl) :
    EX X i n kk (.Call (.Name f p) [.Name x p1, .Name y p2, e] [] pos) ρ (IM (CR Ra R)) := by
  subst hkk
  obtain ⟨ff, fd, ps, g1, g2, g3, g4⟩ := F.ex
  refine .mk' (pe_call g4 hr hg g1 g2 g3 .nil pass0 (pa_cons (pe_var hNj hvj hd1 hcd1) (pa_cons (pe_var hNi hvi hd2 hcd2) (pa_cons pe_any pa_nil he3) he2) he) hdb he hpl) fun t ds c B γ σ H hc tw A => ?_
  have hj' : ∀ ds, (ρ.set i (.ml t ds))[j]? = some (.sc sa ss) := fun ds => by rw [List.getElem?_set_ne hij]; exact hj
  obtain ⟨sv, s1, hsv, _⟩ := (A.ok j _ (hj' ds)).resolve_left (by intro z; cases z)
  subst hsv
  refine ⟨_, s1, _, (A.townAt hi).1, h3.use (by omega) tw A fun v d ds' H' r tw' A' dv => ?_⟩
  obtain ⟨t1, ⟨ws, t2, t3⟩, t4⟩ := A'.townAt hi
  obtain ⟨sv', s1', e', ok⟩ := (A'.ok j _ (hj' ds')).resolve_left (by intro z; cases z)
  refine ⟨n, c + k2, sa, t, v, ss, d, ws, ds', rfl, by omega, h63, hs, sqL_same (same_wo A'.same t4) ok, dv, hpr d r, t2, t3, tw', fun v' H2 ws' ds2 z e1 e2 e3 tw2 dz hn rz => ?_⟩
  exact ⟨_, ds2, ⟨z, rfl, d, r, rz⟩, tw2.le (by omega), (A'.town hi e1 e2 tw2 e3).addG (.inr ⟨dz, hn⟩) rfl⟩
end
/-! ## statements that draw -/
section
variable {X : Cx} {i n k c : Nat} {e a b cnd : Expr} {ρ : List Sl} {R : Sl → Prop} {B H : Hp} {σ : L2.St} {γ : List (V × Sl)} {t : Addr} {ds : List PyData} {d : PyData} {pos p py : Pos} {rest body els : List Stmt} {D : Ends} {x : Str}
theorem go_setX (A : At X.K B H σ (ρ.set i (.ml t ds)) γ) (tw : Tw n c ds) (hc : c + k ≤ 2 ^ 60) (j : Nat) (hN : X.N.Nodup) (hj : X.N[j]? = some x) (hx : Loc X.env.scope x) (h : EX X i n k e ρ R) (q : ∀ v y ds' H', R y → Tw n (c + k) ds' → At X.K B H' (σ.set j (some v)) ((ρ.set i (.ml t ds')).set j y) γ → GO X rest D (σ.set j (some v)) H')
    (hs : swapsWith e (some (.Name x py)) pos.line X.env = pure false := by rfl) (hf : X.fn x = true ∨ X.env.scope.names.lookup x = some .local := by first | exact .inl rfl | exact .inr rfl | assumption) : GO X (.Assign [.Name x py] e pos :: rest) D σ H :=
  go_cons (ps_set hN hj hx pe_any hs hf) (h.use hc tw A fun v y ds' H' r tw' A' => q v y ds' H' r tw' (A'.take j))
theorem go_retX (A : At X.K B H σ (ρ.set i (.ml t ds)) γ) (tw : Tw n c ds) (hc : c + k ≤ 2 ^ 60) (h : EX X i n k e ρ R) (q : ∀ v y ds' H', R y → Tw n (c + k) ds' → At X.K B H' σ (ρ.set i (.ml t ds')) ((v, y) :: γ) → D.rt v H') : GO X (.Return (some e) pos :: rest) D σ H :=
  go_cons (ps_ret pe_any) (h.use hc tw A q)
theorem go_ifT2 {R : Bool → Prop} (A : At X.K B H σ (ρ.set i (.ml t ds)) γ) (tw : Tw n c ds) (hc : c + k ≤ 2 ^ 60) (h : ETX X i n k cnd ρ R) (h1 : R true → ∀ ds' H', Tw n (c + k) ds' → At X.K B H' σ (ρ.set i (.ml t ds')) γ → GO X body { D with nx := fun σ H => GO X rest D σ H } σ H') (h2 : R false → ∀ ds' H', Tw n (c + k) ds' → At X.K B H' σ (ρ.set i (.ml t ds')) γ → GO X els { D with nx := fun σ H => GO X rest D σ H } σ H') : GO X (.If cnd body els pos :: rest) D σ H :=
  go_cons (ps_if pt_any pss_any pss_any) (h.use hc tw A fun b ds' H' r tw' A' => by
    cases b with
    | true => exact iteT (h1 r ds' H' tw' A')
    | false => exact iteF (h2 r ds' H' tw' A'))
end
end TH

namespace TH
open PySem L2 PyProof.Rows
/-! ## lists within a list -/
section
variable {K : PySem.W.Frag} {B H H' : Hp} {σ : L2.St} {ρ : List Sl} {γ γ' : List (V × Sl)} {v : V} {x : Sl} {i n c : Nat} {d : PyData} {p : Addr} {ds es : List PyData}
theorem fm_ml : ((V.ref p, Sl.ml p ds) :: γ).filterMap (fun g => g.2.adr) = p :: γ.filterMap fun g => g.2.adr := List.filterMap_cons_some rfl
theorem At.permG (A : At K B H σ ρ γ) (h : γ.Perm γ') : At K B H σ ρ γ' :=
  ⟨A.same, A.len, A.ok, fun g hg => A.gh g (h.mem_iff.mpr hg), ((List.Perm.refl _).append (h.filterMap _)).nodup_iff.mp A.nd⟩
/-- the own list in slot i is no longer held by the slot -/
theorem At.give (A : At K B H σ ρ γ) (hi : ρ[i]? = some (.ml p ds)) : At K B H σ (ρ.set i (.va (.ref p))) ((.ref p, .ml p ds) :: γ) := by
  obtain ⟨v, h1, h2⟩ := (A.ok i _ hi).resolve_left (by intro z; cases z)
  have ev : v = .ref p := h2.1
  subst ev
  have A1 := A.set0 (x := .va (.ref p)) i rfl (v := .ref p) rfl
  have e1 : σ.set i (some (.ref p)) = σ := List.ext_getElem? fun j => by
    by_cases hj : i = j
    · subst hj
      have hl : i < σ.length := by
        rcases Nat.lt_or_ge i σ.length with h | h
        · exact h
        · rw [List.getElem?_eq_none h] at h1
          cases h1
      rw [List.getElem?_set_self hl, h1]
    · rw [List.getElem?_set_ne hj]
  rw [e1] at A1
  refine ⟨A1.same, A1.len, A1.ok, fun g hg => ?_, ?_⟩
  · rcases List.mem_cons.mp hg with rfl | hg
    · exact h2
    · exact A1.gh g hg
  · have nd := A.nd
    have hil : i < ρ.length := by
      rcases Nat.lt_or_ge i ρ.length with h | h
      · exact h
      · rw [List.getElem?_eq_none h] at hi
        cases hi
    have e2 : ρ = ρ.take i ++ .ml p ds :: ρ.drop (i + 1) := by
      have := List.getElem?_eq_getElem hil
      rw [hi] at this
      have e := Option.some.inj this
      rw [e, ← List.drop_eq_getElem_cons hil, List.take_append_drop]
    have e3 : ρ.set i (.va (.ref p)) = ρ.take i ++ .va (.ref p) :: ρ.drop (i + 1) := List.set_eq_take_append_cons_drop.trans (if_pos hil)
    rw [e3]
    rw [e2] at nd
    rw [List.filterMap_append, List.filterMap_cons_some (show Sl.adr (.ml p ds) = some p from rfl)] at nd
    rw [List.filterMap_append, List.filterMap_cons_none (show Sl.adr (.va (.ref p)) = none from rfl), fm_ml]
    refine List.Perm.nodup_iff ?_ |>.mp nd
    rw [List.append_assoc, List.append_assoc]
    refine (List.Perm.refl _).append ?_
    exact List.perm_middle.symm
/-- a list of own lists, as data -/
def gRows (rows : List (Addr × List PyData)) : List (V × Sl) := rows.map fun r => (.ref r.1, .ml r.1 r.2)
theorem dq_rows {rows : List (Addr × List PyData)} (h : ∀ r ∈ rows, SlOk K B H (.ref r.1) (.ml r.1 r.2)) : DqAll K H (rows.map fun r => .ref r.1) (rows.map fun r => .list r.2) := by
  induction rows with
  | nil => exact .nil
  | cons r l ih =>
    obtain ⟨_, _, _, vs, h1, h2⟩ := h r List.mem_cons_self
    exact .cons (.lst h1 h2) (ih fun q hq => h q (List.mem_cons_of_mem _ hq))
theorem At.rows {rows : List (Addr × List PyData)} (A : At K B H σ ρ (gRows rows ++ γ)) : DqAll K H (rows.map fun r => .ref r.1) (rows.map fun r => .list r.2) :=
  dq_rows fun r hr => A.gh _ (List.mem_append.mpr (.inl (List.mem_map.mpr ⟨r, hr, rfl⟩)))
/-- slot j is looked at as d -/
theorem EnvD.put {r : List (Option PyData)} (E : EnvD K H σ r) {j : Nat} {v : V} (hj : σ[j]? = some (some v)) (dv : Dq K H v d) : EnvD K H σ (r.set j (some d)) := by
  refine ⟨by rw [List.length_set]; exact E.len, fun i e h => ?_⟩
  by_cases hi : j = i
  · subst hi
    have hl : j < r.length := by
      rcases Nat.lt_or_ge j r.length with q | q
      · exact q
      · rw [List.getElem?_eq_none (by simpa using q)] at h
        cases h
    rw [List.getElem?_set_self hl] at h
    cases h
    exact ⟨v, hj, dv⟩
  · rw [List.getElem?_set_ne hi] at h
    exact E.get i e h
/-- another value of an own list -/
theorem At.mutH (A : At K B H σ ρ ((.ref p, .ml p ds) :: γ)) {ws : List V} (hd : DqAll K H ws es) (hn : noLs es = true) : At K B (upd H p (.lst ws)) σ ρ ((.ref p, .ml p es) :: γ) := by
  obtain ⟨h1, h2, h3, vs, h4, h5⟩ := A.gh _ List.mem_cons_self
  dsimp only at h1 h2 h3
  have tk : Tk H (upd H p (.lst ws)) := tk_upd h4 rfl
  have nd := A.nd
  rw [fm_ml] at nd
  have nd' := (List.perm_middle (a := p) (l₁ := ρ.filterMap Sl.adr) (l₂ := γ.filterMap fun g => g.2.adr)).nodup_iff.mp nd
  have out := (List.nodup_cons.mp nd').1
  refine ⟨fun a u q => ?_, A.len, fun j z q => ?_, fun g hg => ?_, ?_⟩
  · rw [upd_ne (ne_of_none q h2)]
    exact A.same a u q
  · rcases A.ok j z q with e | ⟨w, o1, o2⟩
    · exact .inl e
    · refine .inr ⟨w, o1, o2.keep tk fun q' hq' e => ?_⟩
      subst e
      exact out (List.mem_append.mpr (.inl (List.mem_filterMap.mpr ⟨z, List.mem_of_getElem? q, hq'⟩)))
  · rcases List.mem_cons.mp hg with rfl | hg2
    · exact ⟨rfl, h2, hn, ws, upd_same, dps_tk tk hd hn⟩
    · refine (A.gh g (List.mem_cons_of_mem _ hg2)).keep tk fun q' hq' e => ?_
      subst e
      exact out (List.mem_append.mpr (.inr (List.mem_filterMap.mpr ⟨g, hg2, hq'⟩)))
  · rw [fm_ml]
    exact nd
end
/-! ## loops with any state -/
section
variable {X : Cx} {rest : List Stmt} {D : Ends} {σ : L2.St} {B H : Hp} {c iter a : Expr} {body els : List Stmt} {pos p1 pos2 py : Pos} {d : PyData} {x : Str}
theorem go_forRX {W : Nat → Nat → L2.St → Hp → Prop} (j : Nat) (rd : ∀ Q : VK, (∀ m H1, m < 1000000 → W m 0 σ H1 → Q (.int (m : Nat)) H1) → tE X a σ H Q) (hp : PassesOwn (model X.prog X.w) X.A X.env X.xe) (hc : X.calm = true) (hgr : Gl X "range") (hm : X.mg "range" = none) (hN : X.N.Nodup) (hj : X.N[j]? = some x) (hx : Loc X.env.scope x)
    (step : ∀ m i σ' H', i < m → W m i σ' H' → GO X body { D with nx := W m (i + 1), ct := W m (i + 1), bk := fun σ H => GO X rest D σ H } (σ'.set j (some (.int (i : Nat)))) H') (done : ∀ m σ' H', W m m σ' H' → GO X rest D σ' H')
    (hsa : starEach [a] X.env = [(false, eval a X.env)] := by rfl) (hs : ∀ x, foldedSetIterable (.Call (.Name "range" p1) [a] [] pos) X.env x = pure x := by intro _; rfl) (hf : X.fn x = true ∨ X.env.scope.names.lookup x = some .local := by first | exact .inl rfl | exact .inr rfl | assumption) : GO X (.For (.Name x py) (.Call (.Name "range" p1) [a] [] pos) body [] pos2 :: rest) D σ H := by
  refine go_cons (ps_for hp hc (pi_range1 hgr hm (pa_cons pe_any pa_nil hsa) hsa) (pg_name hN hj hx hf) pss_any hs) (rd _ fun m H1 hb w0 => ?_)
  refine ⟨_, rfl, by omega, by omega, ?_⟩
  refine ⟨fun i k σ H => k = m - i ∧ i ≤ m ∧ W m i σ H, ⟨m, by simp, Nat.zero_le _, w0⟩, ?_⟩
  rintro i k σ2 H2 ⟨rfl, hi, w2⟩
  by_cases hlt : i < m
  · refine .inr ⟨by show i < (m : Int).toNat; omega, fun σ' H' => W m (i + 1) σ' H', fun σ' H' h => ⟨_, by omega, rfl, hlt, h⟩, fun y H3 hy => ?_⟩
    obtain ⟨h1, h2⟩ := hy
    rw [h1, h2]
    have e : (0 : Int) + (i : Nat) = (i : Nat) := by omega
    rw [e]
    exact step m i σ2 H2 hlt w2
  · have e : i = m := by omega
    subst e
    exact .inl ⟨by show (i : Int).toNat ≤ i; omega, done i σ2 H2 w2⟩
/-- for over the values of a list in a slot, which stays -/
theorem go_forV {W : Nat → L2.St → Hp → Prop} {vs : List V} {p : Addr} {n : Str} {pn : Pos} {k : Nat} (j : Nat) (hk : σ[k]? = some (some (.ref p))) (hNk : X.N[k]? = some n) (hv : Vis X.env.scope n) (h0 : W 0 σ H) (hl : ∀ i σ' H', W i σ' H' → H' p = some (.lst vs)) (hp : PassesOwn (model X.prog X.w) X.A X.env X.xe) (hc : X.calm = true) (hN : X.N.Nodup) (hj : X.N[j]? = some x) (hx : Loc X.env.scope x)
    (step : ∀ i v σ' H', vs[i]? = some v → W i σ' H' → GO X body { D with nx := W (i + 1), ct := W (i + 1), bk := fun σ H => GO X rest D σ H } (σ'.set j (some v)) H') (done : ∀ σ' H', W vs.length σ' H' → GO X rest D σ' H')
    (hs : ∀ x, foldedSetIterable (.Name n pn) X.env x = pure x := by intro _; rfl) (hf : X.fn x = true ∨ X.env.scope.names.lookup x = some .local := by first | exact .inl rfl | exact .inr rfl | assumption) (hd : (n == ("__debug__" : Str)) = false := by decide) (hcd : (n == ("__classdict__" : Str)) = false := by decide) : GO X (.For (.Name x py) (.Name n pn) body [] pos2 :: rest) D σ H := by
  refine go_cons (ps_for hp hc (pi_list (pe_var hNk hv hd hcd)) (pg_name hN hj hx hf) pss_any hs) ⟨_, hk, p, rfl, ⟨_, .of (hl 0 σ H h0)⟩, ?_⟩
  refine ⟨fun i k σ H => k = vs.length - i ∧ i ≤ vs.length ∧ W i σ H, ⟨vs.length, by simp, Nat.zero_le _, h0⟩, ?_⟩
  rintro i k σ2 H2 ⟨rfl, hi, w2⟩
  have q1 := hl i σ2 H2 w2
  by_cases hlt : i < vs.length
  · refine .inr ⟨walk_list.goes i H2 hlt (.of q1), fun σ' H' => W (i + 1) σ' H', fun σ' H' h => ⟨_, by omega, rfl, hlt, h⟩, fun y H3 hy => ?_⟩
    obtain ⟨h1, h2⟩ := walk_list.yields i H2 y H3 hlt (.of q1) hy
    subst h1
    exact step i y σ2 _ h2 w2
  · have e : i = vs.length := by omega
    subst e
    exact .inl ⟨walk_list.stops H2 (.of q1), done σ2 H2 w2⟩
end
theorem go_retE {X : Cx} {rest : List Stmt} {D : Ends} {σ : L2.St} {H : Hp} {e : Expr} {pos : Pos} {r : List (Option PyData)} {d : PyData} (E : EnvD X.K H σ r) (h : EV X e r d) (q : ∀ v H', Same H H' → Dq X.K H' v d → D.rt v H') : GO X (.Return (some e) pos :: rest) D σ H :=
  go_cons (ps_ret pe_any) (h.use E q)
/-! ## own lists that take what was drawn -/
section
variable {X : Cx} {i n k k' c : Nat} {e a : Expr} {ρ : List Sl} {R R2 : PyData → Prop} {B H : Hp} {σ : L2.St} {γ : List (V × Sl)} {t p : Addr} {ds es : List PyData} {pos : Pos} {rest : List Stmt} {D : Ends} {nm : Str} {pn pa pc pt : Pos}
theorem go_appendX (A : At X.K B H σ (ρ.set i (.ml t ds)) γ) (tw : Tw n c ds) (hc : c + k ≤ 2 ^ 60) (j : Nat) (hij : i ≠ j) (hj : ρ[j]? = some (.ml p es)) (hN : X.N[j]? = some nm) (hv : Vis X.env.scope nm) (h : EX X i n k e ρ (IM R)) (hn : ∀ z, R z → noL z = true) (hz : es.length < 100000)
    (q : ∀ z ds' H', R z → Tw n (c + k) ds' → At X.K B H' σ ((ρ.set i (.ml t ds')).set j (.ml p (es ++ [z]))) γ → GO X rest D σ H')
    (hbase : attributeBase (.Name nm pn) "append" X.env (eval (.Name nm pn) X.env) = eval (.Name nm pn) X.env := by rfl)
    (hfew : ((backTo pc (starEach [e] X.env)).all (fun x => !x.1) && (backToKw pc (keywordEach [] X.env)).all (fun x => x.1.isSome) && decide ([e].length + ([] : List Keyword).length + (if ([] : List Keyword).isEmpty then 0 else 1) < 30)) = true := by rfl)
    (hline : (pa.endLine == pc.line) = true := by rfl) (hs : starEach [e] X.env = (false, eval e X.env) :: starEach [] X.env := by rfl) (hplain : (backTo pc (starEach [] X.env)).any (·.1) = false := by rfl)
    (hsw : swapsWith (.Call (.Attribute (.Name nm pn) "append" pa) [e] [] pc) none pos.line X.env = pure false := by rfl) (hd : (nm == ("__debug__" : Str)) = false := by decide) (hcd : (nm == ("__classdict__" : Str)) = false := by decide) :
    GO X (.Expr (.Call (.Attribute (.Name nm pn) "append" pa) [e] [] pc) pos :: rest) D σ H := by
  have hj' : ∀ ds, (ρ.set i (.ml t ds))[j]? = some (.ml p es) := fun ds => by rw [List.getElem?_set_ne hij]; exact hj
  obtain ⟨h1, ⟨vs, h2, h3⟩, h4, h5⟩ := A.lst (hj' ds)
  refine go_cons (ps_expr (pe_bm PySem.F.plainAttrs_list PySem.F.slot_list_append PySem.F.type_list_append mt_append (pe_var hN hv hd hcd) (pa_cons pe_any pa_nil hs) hbase hfew hline hs hplain) hsw) ?_
  refine ⟨_, h1, .inl ⟨rfl, _, .of h2⟩, h.use hc tw A fun w x ds' H' ⟨z, hx, r⟩ tw' A' => ?_⟩
  subst hx
  obtain ⟨g1, ⟨ws, g2, g3⟩, g4, g5⟩ := A'.lst (hj' ds')
  refine ⟨p, ws, w, rfl, rfl, g2, Nat.lt_of_lt_of_le (by rw [g3.length]; exact hz) (by decide), ?_⟩
  refine q z ds' _ r tw' (A'.unG.mut (hj' ds') (g3.append (.cons A'.g0 .nil)) (noLs_iff.mpr fun y hy => ?_))
  rcases List.mem_append.mp hy with hy | hy
  · exact noLs_iff.mp g5 y hy
  · rw [List.mem_singleton] at hy
    rw [hy]
    exact hn z r
theorem go_setIxX (A : At X.K B H σ (ρ.set i (.ml t ds)) γ) (tw : Tw n c ds) (hc : c + (k + k') ≤ 2 ^ 60) (j : Nat) (hij : i ≠ j) (hj : ρ[j]? = some (.ml p es)) (hN : X.N[j]? = some nm) (hv : Vis X.env.scope nm) (h : EX X i n k e ρ (IM R)) (hn : ∀ z, R z → noL z = true) (h2 : EX X i n k' a ρ (IM R2)) (hk : ∀ y, R2 y → ∃ m : Nat, m < es.length ∧ y = dN m)
    (q : ∀ z m ds' H', R z → m < es.length → R2 (dN m) → Tw n (c + (k + k')) ds' → At X.K B H' σ ((ρ.set i (.ml t ds')).set j (.ml p (es.set m z))) γ → GO X rest D σ H')
    (hs : swapsWithSole [.Subscript (.Name nm pn) a pt] e pos.line X.env = pure false := by rfl) (hw : swappedStores [.Subscript (.Name nm pn) a pt] e X.env = pure none := by rfl) (h1 : (assignEach [.Subscript (.Name nm pn) a pt] X.env).map (·.2) = [assign (.Subscript (.Name nm pn) a pt) X.env] := by rfl)
    (hst : ∀ v, assign (.Subscript (.Name nm pn) a pt) X.env v = (do
      let ov ← holding [v] (eval (.Name nm pn) X.env)
      let iv ← holding [v, ov] (eval a X.env)
      standAt pt
      holding [v, ov, iv] (setItem ov iv v)
      release [v, ov, iv] []) := by intro _; rfl) (hd : (nm == ("__debug__" : Str)) = false := by decide) (hcd : (nm == ("__classdict__" : Str)) = false := by decide) :
    GO X (.Assign [.Subscript (.Name nm pn) a pt] e pos :: rest) D σ H := by
  have hj' : ∀ ds, (ρ.set i (.ml t ds))[j]? = some (.ml p es) := fun ds => by rw [List.getElem?_set_ne hij]; exact hj
  refine go_cons (ps_asg pe_any (pg_sub (pe_var hN hv hd hcd) pe_any set_list hst) hs hw h1) ?_
  refine h.use (by omega) tw A fun w x ds1 H1 ⟨z, hx, r⟩ tw1 A1 => ?_
  subst hx
  refine ⟨_, (A1.lst (hj' ds1)).1, h2.use (by omega) tw1 A1 fun y x2 ds2 H2 ⟨z2, hx2, r2⟩ tw2 A2 => ?_⟩
  subst hx2
  obtain ⟨m, hm, rfl⟩ := hk z2 r2
  obtain ⟨g1, ⟨ws, g2, g3⟩, g4, g5⟩ := A2.lst (hj' ds2)
  have dy := A2.g0
  cases dy
  refine ⟨p, ws, m, m, rfl, rfl, g2, ?_, ?_⟩
  · unfold ixN
    rw [g3.length, if_pos (by omega), if_pos (by omega)]
    simp
  · refine q z m ds2 _ r hm r2 (by rw [← Nat.add_assoc]; exact tw2) (A2.unG.unG.mut (hj' ds2) (g3.set A2.g1 m) (noLs_iff.mpr fun y hy => ?_))
    rcases List.mem_or_eq_of_mem_set hy with hy | hy
    · exact noLs_iff.mp g5 y hy
    · rw [hy]
      exact hn z r
end
/-! ## texts -/
section
variable {X : Cx} {r : List (Option PyData)} {a b o : Expr} {pos apos : Pos} {z : Str}
theorem ca_strI {i : Int} (h : i.natAbs.log2 < 1920) : CaD X (.type "str") [.int i] (.str (toString i)) := ⟨_, call_str_int, fun vs H hd => by
  obtain ⟨v, rfl, hv⟩ := dq1 hd
  cases hv
  exact ⟨i, rfl, h, Same.refl H, .str _⟩⟩
theorem ca_strS : CaD X (.type "str") [.str z] (.str z) := ⟨_, SkE.call_str_str, fun vs H hd => by
  obtain ⟨v, rfl, hv⟩ := dq1 hd
  cases hv
  exact ⟨z, rfl, Same.refl H, .str _⟩⟩
theorem ev_join {ys : List Str} (ho : EV X o r (.str z)) (he : EV X a r (.list (ys.map .str))) (hz : (ys.map (·.length)).sum + ys.length * z.length ≤ 16777216) (hs : starEach [a] X.env = [(false, eval a X.env)] := by rfl) (hbase : attributeBase o "join" X.env (eval o X.env) = eval o X.env := by rfl) (hline : (apos.endLine == pos.line) = true := by rfl) : EV X (.Call (.Attribute o "join" apos) [a] [] pos) r (.str (Txt.join z ys)) :=
  .mk' (pe_m1 F.slot_str_join F.type_str_join mt_join pe_any pe_any hs hbase hline) fun σ H E => ho.use E fun v H1 e1 dv => by
    cases dv
    refine ⟨⟨z, rfl⟩, he.use (E.same e1) fun w H2 e2 dw => ?_⟩
    cases dw with
    | lst h1 h2 => exact ⟨z, _, ys, rfl, rfl, .inl (.of (by rw [h2.strs] at h1; exact h1)), hz, e1.trans e2, .str _⟩
theorem it_str (h : EV X a r (.str z)) {tg : Expr} : ITR Tk X tg a r (z.cps.toList.map fun c => .str ⟨#[c]⟩) := ⟨_, pi_str pe_any, fun σ H E R q => h.use E fun v H1 e1 dv => by
  cases dv
  refine ⟨z, rfl, q _ H1 e1 ⟨fun i H2 e hi => ?_, fun H2 e => ?_, fun i H2 x H3 e hi y => ?_⟩⟩
  · show i < z.cps.size
    simpa using hi
  · show z.cps.size ≤ _
    simp
  · obtain ⟨h1, ch, h2, h3⟩ := y
    subst h1 h3
    refine ⟨Same.refl _, .str ⟨#[ch]⟩, ?_, .str _⟩
    rw [List.getElem?_map, Array.getElem?_toList, h2]
    rfl⟩
end
end TH

namespace TH
open PySem PySem.Spec L2 PyProof.Rows
/-! ## tuples whose object is known -/
section
variable {X : Cx}
/-- sorted(t), a tuple of ints -/
theorem cr_sortT : CallR X (.builtin "sorted") (fun xs H Q => ∃ (a : Addr) (ks : List Int), xs = [.ref a] ∧ SqT X.K H a (ks.map V.int) ∧ ks.length < 64 ∧ ∀ (ys : List Int) (p : Addr), ys.Perm ks → ys.Pairwise (· ≤ ·) → H p = none → Q (.ref p) (upd H p (.lst (ys.map V.int)))) := by
  intro pins s σ H xs us Q I r h
  obtain ⟨a, ks, rfl, ha, h64, q⟩ := h
  rw [Vals.ref1 r]
  obtain ⟨vs, rv, ⟨o, ho, hcls, n, hdat⟩, hsz⟩ := I.tuple ha
  have y1 : IntsAre vs ks := ints_of_vals rv
  have vl : vs.length = ks.length := y1.length
  refine Calls.call_function_entry kind_sorted plain_sorted entry_sorted (args_sorted1 _) ?_
  unfold Builtin.«sorted»
  refine wpAny_bind (m := checkCount "sorted" 1 1 _) (wpAny_pure ?_)
  refine wpAny_bind (wpAny_collect_seq (A := X.A.in1) a (.inr rfl) ho hcls hdat (fun h' keep => ?_) (by rw [List.size_toArray, vl, sizeLine_eq]; omega))
  rw [List.toList_toArray]
  refine wpAny_bind (wpAny_newList ?_ (by rw [vl, sizeLine_eq]; omega))
  have hoL : (h'.push (seqObj "list" vs.toArray 0)).get? h'.objs.size = some (seqObj "list" vs.toArray 0) := Heap.get?_push_size _ rfl
  refine wpAny_bind (wpAny_holding (wpAny_call_entry slot_list_sort ⟨_, hoL, rfl⟩ entry_list_sort (list_sort_tree hoL y1 (by rw [vl]; exact h64) fun out xs x1 x2 x3 => ⟨_, rfl, ?_⟩) (args_list_sort _)))
  obtain ⟨c, hc⟩ := sortedHeap_at (vs := vs) (out := out) hoL
  have k2 : ∀ b u, h'.get? b = some u → (sortedHeap (h'.push (seqObj "list" vs.toArray 0)) h'.objs.size vs out).get? b = some u := fun b u e => by
    have lt := Heap.lt_size e
    rw [sortedHeap_old (Nat.ne_of_lt lt) (by rw [size_push']; exact Nat.lt_succ_of_lt lt)]
    exact Heap.get?_push_of_some _ e
  have I1 : Inv X pins σ H { s with heap := h' } := I.kept (t' := s.toks) keep
  have hn : H h'.objs.size = none := I1.hok.fresh (Nat.le_refl _)
  have hlen : (xs.map V.int).length ≤ sizeLine := by rw [List.length_map, x2.length_eq, sizeLine_eq]; omega
  exact wpAny_pure ⟨_, rfl, .ref h'.objs.size, _, I1.laid (t' := s.toks) (a := h'.objs.size) (o := .lst (xs.map V.int)) k2 (Nat.le_refl _) ⟨hlen, out.toList, c, vals_of_ints x1, by rw [Array.toArray_toList]; exact hc⟩, rfl, q xs _ x2 x3 hn⟩
theorem cl_sortedT {xs zs : List Int} (hz : xs.length < 64) (hu : ∀ ys : List Int, ys.Perm xs → ys.Pairwise (· ≤ ·) → ys = zs) : CaL X (.builtin "sorted") [.tuple (xs.map .int)] (zs.map .int) := ⟨_, cr_sortT, fun vs H h => by
  obtain ⟨v, rfl, hv⟩ := dq1 h
  cases hv with
  | tup hs ha =>
    rw [ha.ints] at hs
    refine ⟨_, xs, rfl, hs, hz, fun ys p pm pw hp => ?_⟩
    have e := hu ys pm pw
    subst e
    exact ⟨p, _, rfl, hp, same_new hp, upd_same, dps_ints ys⟩⟩
/-- the tuple's object is known, it has no dict -/
def FzI (H : Hp) (a : Addr) (ns : List Int) : Prop := ∃ o : Obj, H a = some (.frz o (.tup (ns.map V.int))) ∧ o.cls = .type "tuple" ∧ o.dict = none
theorem FzI.same {H H' : Hp} {a : Addr} {ns : List Int} (e : Same H H') (h : FzI H a ns) : FzI H' a ns := by
  obtain ⟨o, h1, h2⟩ := h
  exact ⟨o, e _ _ h1, h2⟩
theorem FzI.dq {K : PySem.W.Frag} {H : Hp} {a : Addr} {ns : List Int} (h : FzI H a ns) : Dq K H (.ref a) (.tuple (ns.map .int)) := by
  obtain ⟨o, h1, h2⟩ := h
  exact .tup (.inl (.inr ⟨o, h1⟩)) (dps_ints ns)
/-- tuple(l) of a list of ints -/
theorem cr_tupleF : CallR X (.type "tuple") (fun xs H Q => ∃ p ns, xs = [.ref p] ∧ SqL X.K H p (ns.map V.int) ∧ ∀ l H', H l = none → Same H H' → FzI H' l ns → Q (.ref l) H') := by
  intro pins s σ H xs us Q I r h
  obtain ⟨p, ns, rfl, hq, q⟩ := h
  rw [Vals.ref1 r]
  obtain ⟨its, rv, pl, hz⟩ := I.list hq
  have hlen := rv.length
  refine call_tuple_list pl.isList (fun h' kp => ?_) (by simp only [List.size_toArray] <;> omega)
  have J : Inv X pins σ H { s with heap := h' } := I.kept (t' := s.toks) kp
  have hf : H h'.objs.size = none := J.hok.fresh (Nat.le_refl _)
  have J2 := J.laid (t' := s.toks) (h' := h'.push { cls := .type "tuple", data := .seq its.toArray }) (a := h'.objs.size) (o := .frz { cls := .type "tuple", data := .seq its.toArray } (.tup (ns.map V.int))) (fun b o e => Heap.get?_push_of_some _ e) (Nat.le_refl _) ⟨Heap.get?_push_size _ rfl, hz, its, rv, IsTup.new _ _⟩
  exact ⟨.ref h'.objs.size, _, J2, rfl, q _ _ hf (same_new hf) ⟨_, upd_same, rfl, rfl⟩⟩
/-- t.index(k) -/
theorem pe_tix {o e : Expr} {to : TE} {t : TA} {apos cpos : Pos} (ho : PE X o to) (he : PA X [e] t)
    (hbase : attributeBase o "index" X.env (eval o X.env) = eval o X.env := by rfl)
    (hfew : ((backTo cpos (starEach [e] X.env)).all (fun x => !x.1) && (backToKw cpos (keywordEach [] X.env)).all (fun x => x.1.isSome) && decide ([e].length + ([] : List Keyword).length + (if ([] : List Keyword).isEmpty then 0 else 1) < 30)) = true := by rfl)
    (hline : (apos.endLine == cpos.line) = true := by rfl) (hs : starEach [e] X.env = (false, eval e X.env) :: starEach [] X.env := by rfl) (hplain : (backTo cpos (starEach [] X.env)).any (·.1) = false := by rfl) :
    PE X (.Call (.Attribute o "index" apos) [e] [] cpos) (fun σ H Q => to σ H fun x H1 => ∃ a ns, x = .ref a ∧ FzI H1 a ns ∧ t σ H1 fun ys H2 => FzI H2 a ns ∧ ∃ k, ys = [.int k] ∧ k ∈ ns ∧ Q (.int (ns.idxOf k : Nat)) H2) := by
  refine ⟨fun pins s σ H Q I h => ?_⟩
  refine wpAny_Call_method_late hbase hfew hline rfl (thn (ho.run pins s σ H _ I h) fun v s1 ⟨x, H1, I1, r1, a, ns, hx, fz, q1⟩ => ?_)
  subst hx
  cases r1
  obtain ⟨ob, f1, f2, f3⟩ := fz
  obtain ⟨g1, _⟩ := I1.hok a _ f1
  refine ⟨"tuple", "tuple.index", PySem.F.plainAttrs_tuple, PySem.F.slot_tuple_index, PySem.F.type_tuple_index, ⟨ob, g1, f2⟩, fun b eb => by cases eb; exact ⟨ob, g1, f3⟩, ?_⟩
  have hA := he.run cpos pins s1 σ H1 _ I1 q1
  rw [hs] at hA ⊢
  refine Calls.callWith_builtin (by show (false || (backTo cpos (starEach [] X.env)).any (·.1)) = false; rw [hplain] <;> rfl) (Calls.evalArgs_plain ?_)
  refine thn hA fun us s2 ⟨vs, H2, I2, r2, fz2, k, hvs, hk, q2⟩ => ?_
  subst hvs
  obtain ⟨ob2, e1, e2, e3⟩ := fz2
  obtain ⟨u, rfl, tk, rfl⟩ := vals1 r2
  obtain ⟨its, rv, hit, _⟩ := I2.tuple (.inl (.inr ⟨ob2, e1⟩))
  exact SeqAt.tuple_index_ints (vs := its) hit (ints_of_vals rv) hk ⟨.int _, H2, I2.tok _, ⟨_, rfl⟩, q2⟩
end
/-! ## a list comprehension under a condition that stays -/
section
variable {X : Cx} {r : List (Option PyData)} {elt tg iter : Expr} {scope : Scope} {own : List (Str × Nat)} {pos : Pos} {g : TG} {ds : List PyData} {u : PyData → List (Option PyData) → List (Option PyData)} {sl : List Nat} {f : PyData → PyData} {Φ : Hp → Prop} {σ : L2.St}
theorem lc_readP (st : ∀ H H', Same H H' → Φ H → Φ H') (hi : ITR Same X tg iter r ds) (hr : ∀ d ∈ ds, RdG X.K g d (u d) sl) (hsl : ∀ i ∈ sl, i ∈ own.map (·.2))
    (he : ∀ d ∈ ds, ∀ (σ2 : L2.St) (H : Hp), Φ H → wipe σ2 (own.map (·.2)) = wipe σ (own.map (·.2)) → EnvD X.K H σ2 (u d (wipeR r (own.map (·.2)))) → ∀ Q : VK, (∀ v H', Same H H' → Dq X.K H' v (f d) → Q v H') → Blk X scope fun Y => tE Y elt σ2 H Q) (hf : ∀ d ∈ ds, noL (f d) = true) (hz : ds.length ≤ 100000)
    {H : Hp} (E : EnvD X.K H σ r) (h0 : Φ H) {Q : VK} (q : ∀ v H', QL X.K H (ds.map f) v H' → Q v H') :
    tLc (tI X tg iter) g (fun σ H Q => Blk X scope fun Y => tTs Y [] σ H Q) (fun σ H Q => Blk X scope fun Y => tE Y elt σ H Q) (own.map (·.2)) σ H Q := by
  refine hi.use E fun J H1 e1 W D hD => ?_
  refine ⟨fun i m H' => m = ds.length - i ∧ i ≤ ds.length ∧ Same H1 H' ∧ ∃ vs, H' D = some (.lst vs) ∧ DqAll X.K H' vs ((ds.take i).map f), ⟨ds.length, by simp, Nat.zero_le _, same_new hD, [], upd_same, .nil⟩, ?_⟩
  rintro i m H2 ⟨rfl, hi', e2, vs, hv, dv⟩
  by_cases hlt : i < ds.length
  · refine .inr ⟨W.go i H2 e2 hlt, fun H' => i + 1 ≤ ds.length ∧ Same H1 H' ∧ ∃ vs, H' D = some (.lst vs) ∧ DqAll X.K H' vs ((ds.take (i + 1)).map f), fun H' h => ⟨_, by omega, rfl, h⟩, fun x H3 y => ?_⟩
    obtain ⟨e3, d, hd, dx⟩ := W.yld i H2 x H3 e2 hlt y
    have hm : d ∈ ds := List.mem_of_getElem? hd
    refine hr d hm x _ H3 _ _ dx ((E.same ((e1.trans e2).trans e3)).wipe (own.map (·.2))) fun σ2 E2 hw => ⟨(hw _ hsl).trans (wipe_twice _ _), ?_⟩
    intro s1 H0 C cl fp
    refine (ets_nil (X := X.blk s1 H0 scope (compEnvC scope cl C X.env) fp)).use E2 fun H4 e4 => ?_
    refine iteT (he d hm σ2 H4 (st _ _ (((e1.trans e2).trans e3).trans e4) h0) ((hw _ hsl).trans (wipe_twice _ _)) (E2.same e4) _ fun y H5 e5 dy => ?_)
    have ek : ds.take (i + 1) = ds.take i ++ [d] := take_succ hd
    have hv5 : H5 D = some (.lst vs) := e5 _ _ (e4 _ _ (e3 _ _ hv))
    have tk : Tk H5 (upd H5 D (.lst (vs ++ [y]))) := tk_upd hv5 rfl
    have hn : ∀ z ∈ (ds.take i).map f, noL z = true := fun z hz => by
      obtain ⟨w, hw, rfl⟩ := List.mem_map.mp hz
      exact hf w (List.mem_of_mem_take hw)
    refine ⟨vs, hv5, ?_, by omega, fun a o h => ?_, vs ++ [y], upd_same, ?_⟩
    · have h1 := dv.length
      rw [List.length_map, List.length_take] at h1
      have : (100000 : Nat) < sizeLine := by decide
      omega
    · rw [upd_ne (ne_of_none h hD)]
      exact e5 _ _ (e4 _ _ (e3 _ _ (e2 _ _ h)))
    · rw [ek, List.map_append]
      exact (dps_tk tk (dps_same ((e3.trans e4).trans e5) dv) (noLs_iff.mpr hn)).append (.cons (dp_tk tk dy (hf d hm)) .nil)
  · have e : i = ds.length := by omega
    subst e
    rw [List.take_length] at dv
    exact .inl ⟨W.stop H2 e2, q _ _ ⟨D, vs, rfl, e1.free hD, e1.trans e2, hv, dv⟩⟩
/-- the reading of a comprehension, to be used with lc_readP -/
theorem pe_lcP (hc : X.calm = true) (hN : X.N.Nodup) (ok : BlkOk X.N X.env.scope scope own) (hg : Blk X scope fun Y => PG Y tg g) (hs : ∀ x, foldedSetIterable iter X.env x = pure x := by intro _; rfl) : PE X (.ListComp elt [⟨tg, iter, [], 0⟩] scope pos) (tLc (tI X tg iter) g (fun σ H Q => Blk X scope fun Y => tTs Y [] σ H Q) (fun σ H Q => Blk X scope fun Y => tE Y elt σ H Q) (own.map (·.2))) :=
  pe_lc hc hN pi_any ok hg (fun s H C cl fp => ⟨fun pins s1 σ H1 Q I h => h s H C cl fp pins s1 I⟩) (fun s H C cl fp => ⟨fun pins s1 σ H1 Q I h => h s H C cl fp pins s1 I⟩) hs
end
/-! ## at one heap -/
def EVH (X : Cx) (e : Expr) (σ : L2.St) (H : Hp) (d : PyData) : Prop := ∀ Q : VK, (∀ v H', Same H H' → Dq X.K H' v d → Q v H') → tE X e σ H Q
def EVLH (X : Cx) (e : Expr) (σ : L2.St) (H : Hp) (ds : List PyData) : Prop := ∀ Q : VK, (∀ v H', QL X.K H ds v H' → Q v H') → tE X e σ H Q
/-- a tuple of ints whose object is known -/
def EVFH (X : Cx) (e : Expr) (σ : L2.St) (H : Hp) (ns : List Int) : Prop := ∀ Q : VK, (∀ a H', Same H H' → FzI H' a ns → Q (.ref a) H') → tE X e σ H Q
section
variable {X : Cx} {r : List (Option PyData)} {σ : L2.St} {H : Hp} {a b c e elt tg iter : Expr} {p pos : Pos} {d z : PyData} {ds : List PyData} {ns : List Int}
theorem rd_of {t : TE} {Q : VK} (h : PE X e t) (q : t σ H Q) : tE X e σ H Q := fun pins s I => h.run pins s σ H Q I q
theorem EV.h (h : EV X e r d) (E : EnvD X.K H σ r) : EVH X e σ H d := fun Q q => h.use E q
theorem EVL.h (h : EVL X e r ds) (E : EnvD X.K H σ r) : EVLH X e σ H ds := fun Q q => h.use E fun p vs H' e0 e1 e2 dv => q _ _ ⟨p, vs, rfl, e0, e1, e2, dv⟩
theorem EVH.cast (h : EVH X e σ H d) (hd : d = z) : EVH X e σ H z := by subst hd; exact h
theorem evh_cmp {op : CmpOp} {k : Bool} (ha : EVH X a σ H d) (hb : ∀ H1, Same H H1 → EVH X b σ H1 z) (ho : OpD X (compareOp op) d z (.bool k)) (hm : behindInMarks op b = false) : EVH X (.Compare a [op] [b] pos) σ H (.bool k) := fun Q q =>
  rd_of (pe_cmpR ho.opR pe_any pe_any hm) (ha _ fun x H1 e1 dx => hb H1 e1 _ fun y H2 e2 dy => ⟨dp_same e2 dx, dy, fun v H3 e3 dv => q v H3 ((e1.trans e2).trans e3) dv⟩)
theorem evh_and {rest : List Expr} {x y : Bool} (ha : EVH X a σ H (.bool x)) (hb : x = true → ∀ H1, Same H H1 → EVH X (.BoolOp .And (b :: rest) pos) σ H1 (.bool y)) : EVH X (.BoolOp .And (a :: b :: rest) pos) σ H (.bool (x && y)) := fun Q q =>
  rd_of (pe_and pe_any pe_any) (ha _ fun v H1 e1 dv => by
    cases dv
    refine ⟨x, rfl, ?_⟩
    cases x with
    | true => exact iteT (hb rfl H1 e1 _ fun v2 H2 e2 dv2 => q v2 H2 (e1.trans e2) dv2)
    | false => exact iteF (q _ H1 e1 (.bl _)))
theorem evh_one {k : Bool} (h : EVH X a σ H (.bool k)) : EVH X (.BoolOp .And [a] pos) σ H (.bool k) := fun Q q => rd_of (pe_one pe_any) (h _ fun v H1 e1 dv => q v H1 e1 dv)
/-- tuple(l) -/
theorem evh_tup (h : EVLH X e σ H ds) (hg : Gl X "tuple") (hm : X.mg "tuple" = none) (hs : starEach [e] X.env = (false, eval e X.env) :: starEach [] X.env := by rfl) (hpl : (backTo pos (starEach [] X.env)).any (·.1) = false := by rfl) : EVH X (.Call (.Name "tuple" p) [e] [] pos) σ H (.tuple ds) := fun Q q =>
  rd_of (pe_callTy call_tuple_of hg hm (by decide +kernel) (pa_cons pe_any pa_nil hs) (by decide) (by decide) hs hpl) (h _ fun v H1 hv => by
    obtain ⟨l, vs, rfl, h1, h2, h3, h4⟩ := hv
    refine ⟨l, vs, rfl, .inl ⟨.of h3, fun l2 hl2 => q _ _ (h2.trans (same_new hl2)) (.tup (.inl (.inl upd_same)) (dps_same (same_new hl2) h4))⟩⟩)
theorem evf_tup (h : EVH X e σ H (.list (ns.map .int))) (hg : Gl X "tuple") (hm : X.mg "tuple" = none) (hs : starEach [e] X.env = (false, eval e X.env) :: starEach [] X.env := by rfl) (hpl : (backTo pos (starEach [] X.env)).any (·.1) = false := by rfl) : EVFH X (.Call (.Name "tuple" p) [e] [] pos) σ H ns := fun Q q =>
  rd_of (pe_callTy cr_tupleF hg hm (by decide +kernel) (pa_cons pe_any pa_nil hs) (by decide) (by decide) hs hpl) (h _ fun v H1 e1 hv => by
    cases hv with
    | lst h3 h4 =>
      rw [h4.ints] at h3
      exact ⟨_, ns, rfl, .of h3, fun l2 H2 hl2 e2 fz => q l2 H2 (e1.trans e2) fz⟩)
theorem evf_var {i : Nat} {x : Str} {l : Addr} (hi : σ[i]? = some (some (.ref l))) (fz : FzI H l ns) (hN : X.N[i]? = some x) (hv : Vis X.env.scope x) (hd : (x == ("__debug__" : Str)) = false := by decide) (hcd : (x == ("__classdict__" : Str)) = false := by decide) : EVFH X (.Name x p) σ H ns := fun Q q =>
  rd_of (pe_var hN hv hd hcd) ⟨_, hi, q l H (Same.refl H) fz⟩
theorem go_retH {rest : List Stmt} {D : Ends} (h : EVH X e σ H d) (q : ∀ v H', Same H H' → Dq X.K H' v d → D.rt v H') : GO X (.Return (some e) pos :: rest) D σ H := go_cons (ps_ret pe_any) (h _ q)
theorem go_setH {rest : List Stmt} {D : Ends} {B : Hp} {ρ : List Sl} {γ : List (V × Sl)} {x : Str} {py : Pos} (A : At X.K B H σ ρ γ) (i : Nat) (hN : X.N.Nodup) (hi : X.N[i]? = some x) (hx : Loc X.env.scope x) (h : EVH X e σ H d) (hn : noL d = true) (q : ∀ v H', At X.K B H' (σ.set i (some v)) (ρ.set i (.im d)) γ → GO X rest D (σ.set i (some v)) H')
    (hs : swapsWith e (some (.Name x py)) pos.line X.env = pure false := by rfl) (hf : X.fn x = true ∨ X.env.scope.names.lookup x = some .local := by first | exact .inl rfl | exact .inr rfl | assumption) : GO X (.Assign [.Name x py] e pos :: rest) D σ H :=
  go_cons (ps_set hN hi hx pe_any hs hf) (h _ fun v H' e1 dv => q v H' ((A.to e1).setI i dv hn))
theorem go_appendH {rest : List Stmt} {D : Ends} {B : Hp} {ρ : List Sl} {γ : List (V × Sl)} {l : Addr} {n : Str} {pn pa pc : Pos} (A : At X.K B H σ ρ γ) (i : Nat) (hi : ρ[i]? = some (.ml l ds)) (hN : X.N[i]? = some n) (hv : Vis X.env.scope n) (h : EVH X e σ H d) (hn : noL d = true) (hz : ds.length < 100000)
    (q : ∀ H', At X.K B H' σ (ρ.set i (.ml l (ds ++ [d]))) γ → GO X rest D σ H')
    (hbase : attributeBase (.Name n pn) "append" X.env (eval (.Name n pn) X.env) = eval (.Name n pn) X.env := by rfl)
    (hfew : ((backTo pc (starEach [e] X.env)).all (fun x => !x.1) && (backToKw pc (keywordEach [] X.env)).all (fun x => x.1.isSome) && decide ([e].length + ([] : List Keyword).length + (if ([] : List Keyword).isEmpty then 0 else 1) < 30)) = true := by rfl)
    (hline : (pa.endLine == pc.line) = true := by rfl) (hs : starEach [e] X.env = (false, eval e X.env) :: starEach [] X.env := by rfl) (hplain : (backTo pc (starEach [] X.env)).any (·.1) = false := by rfl)
    (hsw : swapsWith (.Call (.Attribute (.Name n pn) "append" pa) [e] [] pc) none pos.line X.env = pure false := by rfl) (hd : (n == ("__debug__" : Str)) = false := by decide) (hcd : (n == ("__classdict__" : Str)) = false := by decide) :
    GO X (.Expr (.Call (.Attribute (.Name n pn) "append" pa) [e] [] pc) pos :: rest) D σ H := by
  obtain ⟨h1, ⟨vs, h5, h6⟩, h3, h4⟩ := A.lst hi
  refine go_cons (ps_expr (pe_bm PySem.F.plainAttrs_list PySem.F.slot_list_append PySem.F.type_list_append mt_append (pe_var hN hv hd hcd) (pa_cons pe_any pa_nil hs) hbase hfew hline hs hplain) hsw) ?_
  refine ⟨_, h1, .inl ⟨rfl, _, .of h5⟩, h _ fun w H' e1 dw => ?_⟩
  refine ⟨l, vs, w, rfl, rfl, e1 _ _ h5, Nat.lt_of_lt_of_le (by rw [h6.length]; exact hz) (by decide), ?_⟩
  refine q _ ((A.to e1).mut hi ((dps_same e1 h6).append (.cons dw .nil)) (noLs_iff.mpr fun z hz => ?_))
  rcases List.mem_append.mp hz with hz | hz
  · exact noLs_iff.mp h4 z hz
  · rw [List.mem_singleton] at hz
    rw [hz]
    exact hn
end
end TH

namespace TH
open PySem PySem.Spec L2 PyProof.Rows RZ
section
variable {X : Cx} {r : List (Option PyData)} {a b o e tg : Expr} {pos p apos : Pos} {ds es : List PyData} {d : PyData}
theorem oc_notB {x y : Bool} : OpD X (compareOp .IsNot) (.bool x) (.bool y) (.bool (!decide (x = y))) := .of op_notBl fun u v H dx dy => by cases dx; cases dy; exact ⟨_, _, rfl, rfl, Same.refl H, .bl _⟩
theorem oc_isB {x y : Bool} : OpD X (compareOp .Is) (.bool x) (.bool y) (.bool (decide (x = y))) := .of op_isBl fun u v H dx dy => by cases dx; cases dy; exact ⟨_, _, rfl, rfl, Same.refl H, .bl _⟩
theorem dq_erase {K : PySem.W.Frag} {H : Hp} : ∀ {vs : List V} {ds : List PyData}, DqAll K H vs ds → ∀ m, DqAll K H (vs.eraseIdx m) (ds.eraseIdx m)
  | _, _, .nil, _ => .nil
  | _, _, .cons _ t, 0 => t
  | _, _, .cons h t, m + 1 => .cons h (dq_erase t m)
/-- the pairs of a zip -/
abbrev zD (ds es : List PyData) : List PyData := List.zipWith (fun d e => .tuple [d, e]) ds es
theorem zD_get {i : Nat} {x y : PyData} (h1 : ds[i]? = some x) (h2 : es[i]? = some y) : (zD ds es)[i]? = some (.tuple [x, y]) := by
  rw [List.getElem?_zipWith, h1, h2]
theorem zD_len (ds es : List PyData) : (zD ds es).length = min ds.length es.length := List.length_zipWith
theorem zD_noL (h1 : noLs ds = true) (h2 : noLs es = true) : noLs (zD ds es) = true := noLs_iff.mpr fun z hz => by
  obtain ⟨i, hi, e⟩ := List.getElem_of_mem hz
  rw [List.getElem_zipWith] at e
  subst e
  have q1 := noLs_iff.mp h1 _ (List.getElem_mem (by rw [zD_len] at hi; omega : i < ds.length))
  have q2 := noLs_iff.mp h2 _ (List.getElem_mem (by rw [zD_len] at hi; omega : i < es.length))
  simp [noL, noLs, q1, q2]
theorem zip_go {K : PySem.W.Frag} {H : Hp} {a b : Addr} {i : Nat} (h1 : Dq K H (.ref a) (.tuple ds)) (h2 : Dq K H (.ref b) (.tuple es)) (hi : i < (zD ds es).length) : (ItzT K a b).go i H := by
  rw [zD_len] at hi
  cases h1 with
  | tup q1 q2 =>
    cases h2 with
    | tup q3 q4 => exact ⟨_, _, _, _, q1, q3, List.getElem?_eq_getElem (by rw [q2.length]; omega), List.getElem?_eq_getElem (by rw [q4.length]; omega)⟩
theorem zip_stop {K : PySem.W.Frag} {H : Hp} {a b : Addr} (h1 : Dq K H (.ref a) (.tuple ds)) (h2 : Dq K H (.ref b) (.tuple es)) : (ItzT K a b).stop (zD ds es).length H := by
  rw [zD_len]
  cases h1 with
  | tup q1 q2 =>
    cases h2 with
    | tup q3 q4 =>
      refine ⟨_, _, q1, q3, ?_⟩
      rw [q2.length, q4.length]
      omega
theorem zip_yld {K : PySem.W.Frag} {H H' : Hp} {a b : Addr} {i : Nat} {x : V} (h1 : Dq K H (.ref a) (.tuple ds)) (h2 : Dq K H (.ref b) (.tuple es)) (hy : (ItzT K a b).yld i H x H') : Same H H' ∧ ∃ d, (zD ds es)[i]? = some d ∧ Dq K H' x d := by
  obtain ⟨T, u, v, rfl, hT, rfl, k1, k2⟩ := hy
  cases h1 with
  | tup q1 q2 =>
    cases h2 with
    | tup q3 q4 =>
      obtain ⟨d1, g1, g2⟩ := q2.get (k1 _ q1)
      obtain ⟨d2, g3, g4⟩ := q4.get (k2 _ q3)
      have sm := same_new (o := .tup [u, v]) hT
      exact ⟨sm, _, zD_get g1 g3, .tup (.inl (.inl upd_same)) (.cons (dp_same sm g2) (.cons (dp_same sm g4) .nil))⟩
/-- a walk over zip(a, b), tuples -/
theorem it_zip {elts : List Expr} {kk : Nat} {tpos : Pos} (h : EVS X [a, b] r [.tuple ds, .tuple es]) (hn1 : noLs ds = true) (hn2 : noLs es = true) (hg : Gl X "zip") (hm : X.mg "zip" = none)
    (hs : starEach [a, b] X.env = (false, eval a X.env) :: starEach [b] X.env := by rfl) (hpl : (backTo pos (starEach [b] X.env)).any (·.1) = false := by rfl) : ITR Tk X (.Tuple elts kk tpos) (.Call (.Name "zip" p) [a, b] [] pos) r (zD ds es) :=
  ⟨_, pi_zipA hg hm pa_any hs hpl, fun σ H E R q => h.use E fun vs H1 e1 dv => by
    obtain ⟨x, y, rfl, dx, dy⟩ := dq2 dv
    have dx0 := dx
    have dy0 := dy
    cases dx with
    | tup q1 q2 =>
      cases dy with
      | tup q3 q4 =>
        have st : ∀ H2, Tk H1 H2 → Dq X.K H2 _ (.tuple ds) ∧ Dq X.K H2 _ (.tuple es) := fun H2 tk => ⟨dp_tk tk dx0 (by simpa [noL] using hn1), dp_tk tk dy0 (by simpa [noL] using hn2)⟩
        refine ⟨_, _, _, _, rfl, .inr ⟨q1, q3, q _ H1 e1 ⟨fun i H2 tk hi => zip_go (st H2 tk).1 (st H2 tk).2 hi, fun H2 tk => zip_stop (st H2 tk).1 (st H2 tk).2, fun i H2 v H3 tk hi hy => zip_yld (st H2 tk).1 (st H2 tk).2 hy⟩⟩⟩⟩
/-- l.index(e), a list of data -/
theorem ev_index {k j : Nat} {z : PyData} (hr : Room k X.A) (ho : EV X o r (.list ds)) (he : EV X e r d) (s1 : SeqAt.shaped (.list ds) = true) (s2 : SeqAt.shaped d = true) (hz : ds[j]? = some z) (hq : PyData.eqv z d = true) (hno : ∀ (m : Nat) (y : PyData), m < j → ds[m]? = some y → PyData.eqv y d = false)
    (hbase : attributeBase o "index" X.env (eval o X.env) = eval o X.env := by rfl)
    (hfew : ((backTo pos (starEach [e] X.env)).all (fun x => !x.1) && (backToKw pos (keywordEach [] X.env)).all (fun x => x.1.isSome) && decide ([e].length + ([] : List Keyword).length + (if ([] : List Keyword).isEmpty then 0 else 1) < 30)) = true := by rfl)
    (hline : (apos.endLine == pos.line) = true := by rfl) (hs : starEach [e] X.env = (false, eval e X.env) :: starEach [] X.env := by rfl) (hplain : (backTo pos (starEach [] X.env)).any (·.1) = false := by rfl) : EV X (.Call (.Attribute o "index" apos) [e] [] pos) r (dN j) :=
  .mk' (pe_bm PySem.F.plainAttrs_list PySem.F.slot_list_index PySem.F.type_list_index (mt_indexD (room65 hr)) pe_any (pa_cons pe_any pa_nil hs) hbase hfew hline hs hplain) fun σ H E => ho.use E fun v H1 e1 dv => by
    have dv0 := dv
    cases dv with
    | lst h1 h2 =>
      refine ⟨.inl ⟨rfl, _, .of h1⟩, he.use (E.same e1) fun w H2 e2 dw => ?_⟩
      exact ⟨_, w, d, ds, j, z, rfl, rfl, (dp_same e2 dv0).dp, dw.dp, s1, s2, hz, hq, hno, e1.trans e2, .int _⟩
end
section
variable {X : Cx} {rest : List Stmt} {D : Ends} {σ : L2.St} {B H : Hp} {ρ : List Sl} {γ : List (V × Sl)} {a b e : Expr} {body : List Stmt} {pos p pos2 : Pos} {x : Str} {ds es : List PyData} {g : TG} {u : PyData → List Sl → List Sl} {Iv : Nat → List Sl → Prop}
/-- for x, y in zip(a, b), tuples -/
theorem go_forZ {elts : List Expr} {kk : Nat} {tpos : Pos} (A : At X.K B H σ ρ γ) (hp : PassesOwn (model X.prog X.w) X.A X.env X.xe) (hc : X.calm = true) (src : EVS X [a, b] (ρ.map view) [.tuple ds, .tuple es]) (hn1 : noLs ds = true) (hn2 : noLs es = true) (hgz : Gl X "zip") (hmz : X.mg "zip" = none) (hg : PG X (.Tuple elts kk tpos) g) (hr : ∀ d ∈ zD ds es, RdA X.K g d (u d)) (h0 : Iv 0 ρ)
    (step : ∀ γ' i d ρ' σ' H', (zD ds es)[i]? = some d → Iv i ρ' → At X.K B H' σ' (u d ρ') γ' → GO X body { D with nx := NX X.K B γ' (Iv (i + 1)), ct := NX X.K B γ' (Iv (i + 1)), bk := fun σ H => GO X rest D σ H } σ' H') (done : ∀ ρ' σ' H', Iv (zD ds es).length ρ' → At X.K B H' σ' ρ' γ → GO X rest D σ' H')
    (hs2 : starEach [a, b] X.env = (false, eval a X.env) :: starEach [b] X.env := by rfl) (hpl : (backTo pos (starEach [b] X.env)).any (·.1) = false := by rfl)
    (hs : ∀ x, foldedSetIterable (.Call (.Name "zip" p) [a, b] [] pos) X.env x = pure x := by intro _; rfl) : GO X (.For (.Tuple elts kk tpos) (.Call (.Name "zip" p) [a, b] [] pos) body [] pos2 :: rest) D σ H := by
  refine go_cons (ps_for hp hc (pi_zipA hgz hmz pa_any hs2 hpl) hg pss_any hs) (src.use A.envD fun vs H1 e1 dv => ?_)
  obtain ⟨v1, v2, rfl, d1, d2⟩ := dq2 dv
  have n1 : noL (.tuple ds) = true := by simpa [noL] using hn1
  have n2 : noL (.tuple es) = true := by simpa [noL] using hn2
  have A1 : At X.K B H1 σ ρ ((v1, .im (.tuple ds)) :: (v2, .im (.tuple es)) :: γ) := ((A.to e1).addG (x := .im (.tuple es)) (.inr ⟨d2, n2⟩) rfl).addG (x := .im (.tuple ds)) (.inr ⟨d1, n1⟩) rfl
  have k1 := d1
  have k2 := d2
  cases d1 with
  | @tup a0 _ _ q1 _ =>
    cases d2 with
    | @tup b0 _ _ q3 _ =>
      refine ⟨_, _, _, _, rfl, .inr ⟨q1, q3, for_core (G := fun H => Dq X.K H (.ref a0) (.tuple ds) ∧ Dq X.K H (.ref b0) (.tuple es)) ⟨fun i H2 gd hi => zip_go gd.1 gd.2 hi, fun H2 gd => zip_stop gd.1 gd.2, fun i H2 y H3 gd hi hy => zip_yld gd.1 gd.2 hy⟩ (zD_noL hn1 hn2) A1 h0 (fun i ρ' σ' H' _ A' => ⟨A'.g0, A'.g1⟩) hr (fun i d ρ' σ' H' hd hv A' => step _ i d ρ' σ' H' hd hv A') fun ρ' σ' H' hv A' => done ρ' σ' H' hv A'.unG.unG⟩⟩
/-- a tuple of ints whose object is known, into slot i -/
theorem go_setF {ns : List Int} {py : Pos} (A : At X.K B H σ ρ γ) (i : Nat) (hN : X.N.Nodup) (hi : X.N[i]? = some x) (hx : Loc X.env.scope x) (h : EVFH X e σ H ns) (q : ∀ l H', FzI H' l ns → At X.K B H' (σ.set i (some (.ref l))) (ρ.set i (.fx (.ref l) (.tuple (ns.map .int)))) γ → GO X rest D (σ.set i (some (.ref l))) H')
    (hs : swapsWith e (some (.Name x py)) pos.line X.env = pure false := by rfl) (hf : X.fn x = true ∨ X.env.scope.names.lookup x = some .local := by first | exact .inl rfl | exact .inr rfl | assumption) : GO X (.Assign [.Name x py] e pos :: rest) D σ H :=
  go_cons (ps_set hN hi hx pe_any hs hf) (h _ fun l H' e1 fz => q l H' fz ((A.to e1).set0 (x := .fx (.ref l) (.tuple (ns.map .int))) i rfl ⟨rfl, .inr ⟨fz.dq, by
    simp only [noL]
    exact noLs_map (fun _ => rfl) ns⟩⟩))
/-- xs.append(ys.pop(e)), e is drawn -/
theorem go_appPop {i j l n k c : Nat} {R : PyData → Prop} {t q r : Addr} {us : List PyData} {xn yn : Str} {pn pa pc pn2 pa2 pc2 : Pos} (A : At X.K B H σ (ρ.set i (.ml t ds)) γ) (tw : Tw n c ds) (hc : c + k ≤ 2 ^ 60) (hj : ρ[j]? = some (.ml q es)) (hl : ρ[l]? = some (.ml r us)) (hij : i ≠ j) (hil : i ≠ l) (hlj : l ≠ j) (hNj : X.N[j]? = some xn) (hvj : Vis X.env.scope xn) (hNl : X.N[l]? = some yn) (hvl : Vis X.env.scope yn)
    (h : EX X i n k e ρ (IM R)) (hk : ∀ y, R y → ∃ m : Nat, m < us.length ∧ y = dN m) (hz : es.length < 100000) (hz2 : us.length < 100000)
    (fin : ∀ (m : Nat) (z : PyData) (ds' : List PyData) (H' : Hp), us[m]? = some z → Tw n (c + k) ds' → At X.K B H' σ (((ρ.set i (.ml t ds')).set l (.ml r (us.eraseIdx m))).set j (.ml q (es ++ [z]))) γ → GO X rest D σ H')
    (hbase : attributeBase (.Name xn pn) "append" X.env (eval (.Name xn pn) X.env) = eval (.Name xn pn) X.env := by rfl) (hbase2 : attributeBase (.Name yn pn2) "pop" X.env (eval (.Name yn pn2) X.env) = eval (.Name yn pn2) X.env := by rfl)
    (hfew : ((backTo pc (starEach [.Call (.Attribute (.Name yn pn2) "pop" pa2) [e] [] pc2] X.env)).all (fun x => !x.1) && (backToKw pc (keywordEach [] X.env)).all (fun x => x.1.isSome) && decide (([.Call (.Attribute (.Name yn pn2) "pop" pa2) [e] [] pc2] : List Expr).length + ([] : List Keyword).length + (if ([] : List Keyword).isEmpty then 0 else 1) < 30)) = true := by rfl)
    (hfew2 : ((backTo pc2 (starEach [e] X.env)).all (fun x => !x.1) && (backToKw pc2 (keywordEach [] X.env)).all (fun x => x.1.isSome) && decide ([e].length + ([] : List Keyword).length + (if ([] : List Keyword).isEmpty then 0 else 1) < 30)) = true := by rfl)
    (hline : (pa.endLine == pc.line) = true := by rfl) (hline2 : (pa2.endLine == pc2.line) = true := by rfl) (hs : starEach [.Call (.Attribute (.Name yn pn2) "pop" pa2) [e] [] pc2] X.env = (false, eval (.Call (.Attribute (.Name yn pn2) "pop" pa2) [e] [] pc2) X.env) :: starEach [] X.env := by rfl) (hs2 : starEach [e] X.env = (false, eval e X.env) :: starEach [] X.env := by rfl)
    (hplain : (backTo pc (starEach [] X.env)).any (·.1) = false := by rfl) (hplain2 : (backTo pc2 (starEach [] X.env)).any (·.1) = false := by rfl)
    (hsw : swapsWith (.Call (.Attribute (.Name xn pn) "append" pa) [.Call (.Attribute (.Name yn pn2) "pop" pa2) [e] [] pc2] [] pc) none pos.line X.env = pure false := by rfl) (hd : (xn == ("__debug__" : Str)) = false := by decide) (hcd : (xn == ("__classdict__" : Str)) = false := by decide) (hd2 : (yn == ("__debug__" : Str)) = false := by decide) (hcd2 : (yn == ("__classdict__" : Str)) = false := by decide) :
    GO X (.Expr (.Call (.Attribute (.Name xn pn) "append" pa) [.Call (.Attribute (.Name yn pn2) "pop" pa2) [e] [] pc2] [] pc) pos :: rest) D σ H := by
  have hj' : ∀ ds, (ρ.set i (.ml t ds))[j]? = some (.ml q es) := fun ds => by rw [List.getElem?_set_ne hij]; exact hj
  have hl' : ∀ ds, (ρ.set i (.ml t ds))[l]? = some (.ml r us) := fun ds => by rw [List.getElem?_set_ne hil]; exact hl
  obtain ⟨h1, ⟨vs, h2, h3⟩, h4, h5⟩ := A.lst (hj' ds)
  obtain ⟨g1, ⟨ws, g2, g3⟩, g4, g5⟩ := A.lst (hl' ds)
  refine go_cons (ps_expr (pe_bm PySem.F.plainAttrs_list PySem.F.slot_list_append PySem.F.type_list_append mt_append (pe_var hNj hvj hd hcd) (pa_cons (pe_bm PySem.F.plainAttrs_list PySem.F.slot_list_pop PySem.F.type_list_pop mt_popAt (pe_var hNl hvl hd2 hcd2) (pa_cons pe_any pa_nil hs2) hbase2 hfew2 hline2 hs2 hplain2) pa_nil hs) hbase hfew hline hs hplain) hsw) ?_
  refine ⟨_, h1, .inl ⟨rfl, _, .of h2⟩, _, g1, .inl ⟨rfl, _, .of g2⟩, h.use hc tw A fun w x ds' H' ⟨y, hx, hy⟩ tw' A' => ?_⟩
  subst hx
  obtain ⟨m, hm, rfl⟩ := hk y hy
  have dw := A'.g0
  cases dw
  obtain ⟨_, ⟨ws', k2, k3⟩, _, k5⟩ := A'.lst (hl' ds')
  obtain ⟨z, hz'⟩ : ∃ z, us[m]? = some z := ⟨_, List.getElem?_eq_getElem hm⟩
  obtain ⟨vz, hvz, dz⟩ := k3.get' hz'
  refine ⟨r, ws', (m : Nat), m, vz, rfl, rfl, k2, by omega, by omega, ?_, hvz, ?_⟩
  · unfold seqIndex?
    rw [k3.length]
    simp
    omega
  have nz : noL z = true := noLs_iff.mp k5 z (List.mem_of_getElem? hz')
  have A2 := (A'.addG (v := vz) (x := .im z) (.inr ⟨dz, nz⟩) rfl).mut (i := l) (es := us.eraseIdx m) (ws := ws'.eraseIdx m) (hl' ds') ?_ (noLs_iff.mpr fun y hy => noLs_iff.mp k5 y (List.mem_of_mem_eraseIdx hy))
  · have hj2 : ((ρ.set i (.ml t ds')).set l (.ml r (us.eraseIdx m)))[j]? = some (.ml q es) := by rw [List.getElem?_set_ne hlj]; exact hj' ds'
    obtain ⟨_, ⟨vs', m2, m3⟩, _, m5⟩ := A2.lst hj2
    refine ⟨q, vs', vz, rfl, rfl, m2, Nat.lt_of_lt_of_le (by rw [m3.length]; exact hz) (by decide), ?_⟩
    refine fin m z ds' _ hz' tw' (A2.unG.unG.mut hj2 (m3.append (.cons A2.g0 .nil)) (noLs_iff.mpr fun y hy => ?_))
    rcases List.mem_append.mp hy with hy | hy
    · exact noLs_iff.mp m5 y hy
    · rw [List.mem_singleton] at hy
      rw [hy]
      exact nz
  · exact dq_erase k3 m
end
end TH

namespace TH
open PySem PySem.Spec L2 PyProof.Rows
/-! ## the script -/
section
variable {X : Cx} {σ : L2.St} {B H : Hp} {ρ : List Sl} {γ : List (V × Sl)} {a b e : Expr} {pos p pn : Pos} {x : Str} {d z y : PyData} {sa : Addr} {ss : List Int} {i : Nat}
theorem At.scr {K : PySem.W.Frag} (A : At K B H σ ρ γ) (hi : ρ[i]? = some (.sc sa ss)) : σ[i]? = some (some (.ref sa)) ∧ SqL K H sa (ss.map V.int) := by
  obtain ⟨v, h1, h2, h3⟩ := (A.ok i _ hi).resolve_left (by intro z; cases z)
  subst h2
  exact ⟨h1, sqL_same A.same h3⟩
theorem evh_bin {op : Operator} (ha : EVH X a σ H d) (hb : ∀ H1, Same H H1 → EVH X b σ H1 y) (ho : OpD X (binaryOp op) d y z) : EVH X (.BinOp a op b pos) σ H z := fun Q q =>
  rd_of (pe_op ho.opR pe_any pe_any) (ha _ fun u H1 e1 dx => hb H1 e1 _ fun v H2 e2 dy => ⟨dp_same e2 dx, dy, fun w H3 e3 dv => q w H3 ((e1.trans e2).trans e3) dv⟩)
theorem evh_lenS (A : At X.K B H σ ρ γ) (hi : ρ[i]? = some (.sc sa ss)) (hN : X.N[i]? = some x) (hv : Vis X.env.scope x) (hg : Gl X "len") (hm : X.mg "len" = none) (hs : starEach [.Name x pn] X.env = (false, eval (.Name x pn) X.env) :: starEach [] X.env := by rfl) (hpl : (backTo pos (starEach [] X.env)).any (·.1) = false := by rfl)
    (hd : (x == ("__debug__" : Str)) = false := by decide) (hcd : (x == ("__classdict__" : Str)) = false := by decide) : EVH X (.Call (.Name "len" p) [.Name x pn] [] pos) σ H (dN ss.length) := fun Q q => by
  obtain ⟨h1, h2⟩ := A.scr hi
  refine rd_of (pe_callB call_len_seq hg hm (by decide +kernel) (pa_cons (pe_var hN hv hd hcd) pa_nil hs) (by decide) (by decide) hs hpl) ⟨_, h1, sa, _, rfl, .inl h2, q _ H (Same.refl H) ?_⟩
  rw [List.length_map]
  exact .int _
theorem evh_ixS {k : Nat} {s : Int} (A : At X.K B H σ ρ γ) (hi : ρ[i]? = some (.sc sa ss)) (hN : X.N[i]? = some x) (hv : Vis X.env.scope x) (he : EVH X e σ H (dN k)) (hk : ss[k]? = some s) (hs : PlainIx e := by intro _ _; rfl) (hd : (x == ("__debug__" : Str)) = false := by decide) (hcd : (x == ("__classdict__" : Str)) = false := by decide) : EVH X (.Subscript (.Name x pn) e pos) σ H (.int s) := fun Q q => by
  obtain ⟨h1, h2⟩ := A.scr hi
  refine rd_of (pe_ix ix_list (pe_var hN hv hd hcd) pe_any hs) ⟨_, h1, he _ fun v H1 e1 dv => ?_⟩
  cases dv
  exact ⟨sa, _, k, .int s, rfl, rfl, sqL_same e1 h2, atI_nat (by rw [List.getElem?_map, hk]; rfl), q _ H1 e1 (.int _)⟩
/-- list(script) -/
theorem evl_listS (A : At X.K B H σ ρ γ) (hi : ρ[i]? = some (.sc sa ss)) (hN : X.N[i]? = some x) (hv : Vis X.env.scope x) (hg : Gl X "list") (hm : X.mg "list" = none) (hs : starEach [.Name x pn] X.env = (false, eval (.Name x pn) X.env) :: starEach [] X.env := by rfl) (hpl : (backTo pos (starEach [] X.env)).any (·.1) = false := by rfl)
    (hd : (x == ("__debug__" : Str)) = false := by decide) (hcd : (x == ("__classdict__" : Str)) = false := by decide) : EVLH X (.Call (.Name "list" p) [.Name x pn] [] pos) σ H (ss.map .int) := fun Q q => by
  obtain ⟨h1, h2⟩ := A.scr hi
  exact rd_of (pe_callTy call_list_of hg hm (by decide +kernel) (pa_cons (pe_var hN hv hd hcd) pa_nil hs) (by decide) (by decide) hs hpl) ⟨_, h1, sa, _, rfl, .inl h2, fun l hl => q _ _ ⟨l, _, rfl, hl, same_new hl, upd_same, dps_ints ss⟩⟩
theorem EVLH.h {ds : List PyData} (h : EVLH X e σ H ds) : EVH X e σ H (.list ds) := fun Q q => h _ fun v H' ⟨l, vs, e0, e1, e2, e3, e4⟩ => q v H' e2 (by rw [e0]; exact .lst e3 e4)
theorem evlh_bin {op : Operator} {zs : List PyData} (ha : EVH X a σ H d) (hb : ∀ H1, Same H H1 → EVH X b σ H1 y) (ho : OpL X (binaryOp op) d y zs) : EVLH X (.BinOp a op b pos) σ H zs := fun Q q =>
  rd_of (pe_op ho.opR pe_any pe_any) (ha _ fun u H1 e1 dx => hb H1 e1 _ fun v H2 e2 dy => ⟨dp_same e2 dx, dy, fun w H3 q3 => q w H3 (q3.back (e1.trans e2))⟩)
/-- a test at one heap -/
def ETH (X : Cx) (e : Expr) (σ : L2.St) (H : Hp) (b : Bool) : Prop := ∀ Q : Bool → Hp → Prop, (∀ H', Same H H' → Q b H') → tT X e σ H Q
theorem rdT_of {t : TT} {Q : Bool → Hp → Prop} (h : PT X e t) (q : t σ H Q) : tT X e σ H Q := fun pins s I => h.run pins s σ H Q I q
theorem eth_cmp {op : CmpOp} {k : Bool} (ha : EVH X a σ H d) (hb : ∀ H1, Same H H1 → EVH X b σ H1 z) (ho : OpD X (compareOp op) d z (.bool k)) (hm : behindInMarks op b = false) : ETH X (.Compare a [op] [b] pos) σ H k := fun Q q =>
  rdT_of (pt_cmpR ho.opR pe_any pe_any hm) (ha _ fun x H1 e1 dx => hb H1 e1 _ fun y H2 e2 dy => ⟨dp_same e2 dx, dy, fun v H3 e3 dv => by
    cases dv
    exact ⟨_, rfl, q H3 ((e1.trans e2).trans e3)⟩⟩)
/-- script == [] -/
theorem eth_eqS {k : Nat} (hr : Room k X.A) (A : At X.K B H σ ρ γ) (hi : ρ[i]? = some (.sc sa ss)) (hN : X.N[i]? = some x) (hv : Vis X.env.scope x) (hb : ∀ H1, Same H H1 → EVH X b σ H1 (.list [])) (hm : behindInMarks .Eq b = false) (hd : (x == ("__debug__" : Str)) = false := by decide) (hcd : (x == ("__classdict__" : Str)) = false := by decide) : ETH X (.Compare (.Name x pn) [.Eq] [b] pos) σ H (decide (ss = [])) := fun Q q => by
  obtain ⟨h1, h2⟩ := A.scr hi
  refine rdT_of (pt_cmpR (op_eqD hr.units) (pe_var hN hv hd hcd) pe_any hm) ⟨_, h1, hb H (Same.refl H) _ fun v H1 e1 dv => ?_⟩
  refine ⟨.list (ss.map .int), .list [], .lst (sqL_same e1 h2) (dps_ints ss).dp, dv.dp, sh_mapL sh_int ss, by decide, _, rfl, ?_⟩
  rw [show PyData.list [] = .list (([] : List Int).map .int) from rfl, eqv_mapL eqv_int]
  exact q H1 e1
theorem eth_and {rest : List Expr} {k : Bool} {m : Bool} (ha : ETH X a σ H k) (hb : k = true → ∀ H1, Same H H1 → ∀ (wh : Sem Value) (Q : Bool → Hp → Prop), (∀ H', Same H1 H' → Q m H') → ∀ (pins : List (Addr × Obj)) (s : Shared), Inv X pins σ H1 s → wpAny (model X.prog X.w) X.A (isTrue (.BoolOp .And (b :: rest) pos) X.env wh) (TP X pins σ Q) X.xe s) : ETH X (.BoolOp .And (a :: b :: rest) pos) σ H (k && m) := fun Q q =>
  rdT_of (PW.pt (pw_and (tB' := tW X (.BoolOp .And (b :: rest) pos)) pt_any pw_any)) (ha _ fun H1 e1 => by
    cases k with
    | true => exact iteT fun wh pins s I => hb rfl H1 e1 wh _ (fun H2 e2 => q H2 (e1.trans e2)) pins s I
    | false => exact iteF (q H1 e1))
theorem go_setLH {rest : List Stmt} {D : Ends} {ds : List PyData} {py : Pos} (A : At X.K B H σ ρ γ) (i : Nat) (hN : X.N.Nodup) (hi : X.N[i]? = some x) (hx : Loc X.env.scope x) (h : EVLH X e σ H ds) (hn : noLs ds = true) (q : ∀ p H', At X.K B H' (σ.set i (some (.ref p))) (ρ.set i (.ml p ds)) γ → GO X rest D (σ.set i (some (.ref p))) H')
    (hs : swapsWith e (some (.Name x py)) pos.line X.env = pure false := by rfl) (hf : X.fn x = true ∨ X.env.scope.names.lookup x = some .local := by first | exact .inl rfl | exact .inr rfl | assumption) : GO X (.Assign [.Name x py] e pos :: rest) D σ H :=
  go_cons (ps_set hN hi hx pe_any hs hf) (h _ fun v H' ⟨p, vs, e0, e1, e2, e3, e4⟩ => by
    subst e0
    exact q p H' (A.setL i e1 e2 e3 e4 hn))
theorem go_ifH {rest body els : List Stmt} {D : Ends} {k : Bool} {c : Expr} (A : At X.K B H σ ρ γ) (h : ETH X c σ H k) (h1 : k = true → ∀ H', At X.K B H' σ ρ γ → GO X body { D with nx := fun σ H => GO X rest D σ H } σ H') (h2 : k = false → ∀ H', At X.K B H' σ ρ γ → GO X els { D with nx := fun σ H => GO X rest D σ H } σ H') : GO X (.If c body els pos :: rest) D σ H :=
  go_cons (ps_if pt_any pss_any pss_any) (h _ fun H' e1 => by
    cases k with
    | true => exact iteT (h1 rfl H' (A.to e1))
    | false => exact iteF (h2 rfl H' (A.to e1)))
end
end TH

namespace TH
/-! ## reach by rounds -/
def newW (met : List Nat) : Way → Bool
  | .h z => !decide (z ∈ met)
  | .x _ => false
def hallW : Way → Nat
  | .h z => z
  | .x _ => 0
def newOf (h : House) (met : List Nat) (o : Nat) : List Nat := ((row h o).filter (newW met)).map hallW
theorem mem_newOf {h : House} {met : List Nat} {o z : Nat} : z ∈ newOf h met o ↔ Way.h z ∈ row h o ∧ z ∉ met := by
  unfold newOf
  rw [List.mem_map]
  constructor
  · rintro ⟨v, hv, rfl⟩
    obtain ⟨h1, h2⟩ := List.mem_filter.mp hv
    cases v with
    | h z => exact ⟨h1, by simpa [newW, hallW] using h2⟩
    | x c => simp [newW] at h2
  · rintro ⟨h1, h2⟩
    exact ⟨.h z, List.mem_filter.mpr ⟨h1, by simpa [newW] using h2⟩, rfl⟩
/-- few: no more than three times as many as there are different ones -/
def Few (met : List Nat) : Prop := ∃ es : List Nat, es.Nodup ∧ (∀ e ∈ es, e ∈ met) ∧ met.length ≤ 3 * es.length
theorem Few.len {h : House} (g : GoodH h) {met : List Nat} (f : Few met) (hm : ∀ m ∈ met, m < h.length) : met.length ≤ 12 := by
  obtain ⟨es, h1, h2, h3⟩ := f
  have := nodup_le h1 fun e he => hm e (h2 e he)
  have := g.four
  omega
theorem row_len {h : House} (g : GoodH h) (o : Nat) : (row h o).length ≤ 3 := by
  by_cases ho : o < h.length
  · exact (g.rows _ (row_mem ho)).2
  · rw [row_out (by omega)]
    exact Nat.zero_le _
theorem Few.step {h : House} (g : GoodH h) {met : List Nat} (f : Few met) (o : Nat) : Few (met ++ newOf h met o) := by
  obtain ⟨es, h1, h2, h3⟩ := f
  have hl : (newOf h met o).length ≤ 3 := by
    unfold newOf
    rw [List.length_map]
    exact Nat.le_trans (List.length_filter_le _ _) (row_len g o)
  cases hn : newOf h met o with
  | nil => exact ⟨es, h1, fun e he => List.mem_append.mpr (.inl (h2 e he)), by rw [List.append_nil]; exact h3⟩
  | cons z l =>
    rw [hn] at hl
    have hz := (mem_newOf (h := h) (met := met) (o := o) (z := z)).mp (by rw [hn]; exact List.mem_cons_self)
    refine ⟨z :: es, List.nodup_cons.mpr ⟨fun q => hz.2 (h2 z q), h1⟩, fun e he => ?_, ?_⟩
    · rcases List.mem_cons.mp he with rfl | he
      · exact List.mem_append.mpr (.inr List.mem_cons_self)
      · exact List.mem_append.mpr (.inl (h2 e he))
    · rw [List.length_append, List.length_cons (as := es)]
      omega
def Closed (h : House) (met : List Nat) : Prop := ∀ m ∈ met, ∀ z, Way.h z ∈ row h m → z ∈ met
structure RI (h : House) (x : Nat) (m0 met : List Nat) (j : Nat) : Prop where
  sub : ∀ m ∈ m0, m ∈ met
  rc : ∀ m ∈ met, Rch h x m
  done : ∀ m ∈ m0.take j, ∀ z, Way.h z ∈ row h m → z ∈ met
  src : ∀ m ∈ met, m ∈ m0 ∨ ∃ y ∈ m0, Way.h m ∈ row h y
  few : Few met
theorem RI.step {h : House} (g : GoodH h) {x : Nat} {m0 met : List Nat} {j o : Nat} (I : RI h x m0 met j) (ho : m0[j]? = some o) : RI h x m0 (met ++ newOf h met o) (j + 1) := by
  have hm : o ∈ m0 := List.mem_of_getElem? ho
  refine ⟨fun m h => List.mem_append.mpr (.inl (I.sub m h)), fun m hm' => ?_, fun m hm' z hz => ?_, fun m hm' => ?_, I.few.step g o⟩
  · rcases List.mem_append.mp hm' with h1 | h1
    · exact I.rc m h1
    · exact (I.rc o (I.sub o hm)).step (mem_newOf.mp h1).1
  · rw [List.take_add_one, ho] at hm'
    rcases List.mem_append.mp hm' with h1 | h1
    · exact List.mem_append.mpr (.inl (I.done m h1 z hz))
    · have : m = o := by simpa using h1
      subst this
      by_cases hz' : z ∈ met
      · exact List.mem_append.mpr (.inl hz')
      · exact List.mem_append.mpr (.inr (mem_newOf.mpr ⟨hz, hz'⟩))
  · rcases List.mem_append.mp hm' with h1 | h1
    · exact I.src m h1
    · exact .inr ⟨o, hm, (mem_newOf.mp h1).1⟩
structure RO (h : House) (x : Nat) (met : List Nat) (i : Nat) : Prop where
  st : x ∈ met
  rc : ∀ m ∈ met, Rch h x m
  few : Few met
  cl : Closed h met ∨ ∃ es : List Nat, es.Nodup ∧ (∀ e ∈ es, e ∈ met) ∧ i + 1 ≤ es.length
theorem RO.start (h : House) (x : Nat) : RO h x [x] 0 :=
  ⟨by simp, fun m hm => by rw [List.mem_singleton] at hm; subst hm; exact .refl _, ⟨[x], by simp, by simp, by simp⟩, .inr ⟨[x], by simp, by simp, by simp⟩⟩
theorem RO.inner {h : House} {x : Nat} {met : List Nat} {i : Nat} (I : RO h x met i) : RI h x met met 0 :=
  ⟨fun m hm => hm, I.rc, fun m hm => by simp at hm, fun m hm => .inl hm, I.few⟩
theorem RO.step {h : House} {x : Nat} {m0 met : List Nat} {i : Nat} (I : RO h x m0 i) (J : RI h x m0 met m0.length) : RO h x met (i + 1) := by
  have dn : ∀ m ∈ m0, ∀ z, Way.h z ∈ row h m → z ∈ met := fun m hm => J.done m (by rw [List.take_length]; exact hm)
  refine ⟨J.sub x I.st, J.rc, J.few, ?_⟩
  by_cases c : Closed h m0
  · left
    intro m hm z hz
    rcases J.src m hm with h1 | ⟨y, hy, h1⟩
    · exact dn m h1 z hz
    · exact dn m (c y hy m h1) z hz
  · right
    rcases I.cl with q | ⟨es, e1, e2, e3⟩
    · exact absurd q c
    · have : ∃ m ∈ m0, ∃ z, Way.h z ∈ row h m ∧ z ∉ m0 := by
        apply Classical.byContradiction
        intro q
        refine c fun m hm z hz => ?_
        apply Classical.byContradiction
        intro hz'
        exact q ⟨m, hm, z, hz, hz'⟩
      obtain ⟨m, hm, z, hz, hz'⟩ := this
      refine ⟨z :: es, List.nodup_cons.mpr ⟨fun q => hz' (e2 z q), e1⟩, fun e he => ?_, by rw [List.length_cons]; omega⟩
      rcases List.mem_cons.mp he with rfl | he
      · exact dn m hm e hz
      · exact J.sub e (e2 e he)
theorem RO.fin {h : House} (g : GoodH h) {x : Nat} (hx : x < h.length) {met : List Nat} (I : RO h x met h.length) (z : Nat) : z ∈ met ↔ z ∈ reachL h x := by
  have c : Closed h met := by
    rcases I.cl with c | ⟨es, e1, e2, e3⟩
    · exact c
    · have := nodup_le e1 fun e he => (I.rc e (e2 e he)).lt g hx
      omega
  rw [mem_reachL]
  constructor
  · intro hz
    exact ⟨(I.rc z hz).lt g hx, I.rc z hz⟩
  · rintro ⟨hlt, r⟩
    clear hlt
    induction r with
    | refl => exact I.st
    | step _ m ih => exact c _ ih _ m
end TH

namespace TH
/-! ## a house with its halls in another order -/
def IsOrd (n : Nat) (o : List Nat) : Prop := o.Perm (List.range n)
theorem IsOrd.len {n : Nat} {o : List Nat} (h : IsOrd n o) : o.length = n := by rw [h.length_eq, List.length_range]
theorem IsOrd.nd {n : Nat} {o : List Nat} (h : IsOrd n o) : o.Nodup := h.nodup_iff.mpr List.nodup_range
theorem IsOrd.mem {n : Nat} {o : List Nat} (h : IsOrd n o) {k : Nat} : k ∈ o ↔ k < n := by rw [h.mem_iff, List.mem_range]
/-- the hall that is number k of the order -/
def oAt (o : List Nat) (k : Nat) : Nat := o.getD k 0
theorem oAt_some {o : List Nat} {k : Nat} (h : k < o.length) : o[k]? = some (oAt o k) := by
  unfold oAt
  rw [List.getD_eq_getElem?_getD, List.getElem?_eq_getElem h]
  rfl
theorem oAt_lt {n : Nat} {o : List Nat} (h : IsOrd n o) {k : Nat} (hk : k < n) : oAt o k < n := h.mem.mp (List.mem_of_getElem? (oAt_some (by rw [h.len]; exact hk)))
theorem oAt_idx {n : Nat} {o : List Nat} (h : IsOrd n o) {z : Nat} (hz : z < n) : oAt o (o.idxOf z) = z := by
  have hm := h.mem.mpr hz
  have hl := List.idxOf_lt_length_of_mem hm
  have := oAt_some hl
  rw [List.getElem?_eq_getElem hl, List.getElem_idxOf hl] at this
  exact (Option.some.inj this).symm
theorem idx_lt {n : Nat} {o : List Nat} (h : IsOrd n o) {z : Nat} (hz : z < n) : o.idxOf z < n := by
  have := List.idxOf_lt_length_of_mem (h.mem.mpr hz)
  rw [h.len] at this
  exact this
theorem idx_oAt {n : Nat} {o : List Nat} (h : IsOrd n o) {k : Nat} (hk : k < n) : o.idxOf (oAt o k) = k := by
  have h1 := oAt_lt h hk
  have h2 := idx_lt h h1
  have e1 := oAt_some (o := o) (k := o.idxOf (oAt o k)) (by rw [h.len]; exact h2)
  rw [oAt_idx h h1] at e1
  have e2 := oAt_some (o := o) (k := k) (by rw [h.len]; exact hk)
  exact (List.getElem?_inj (by rw [h.len]; exact h2) h.nd).mp (e1.trans e2.symm)
def renW (o : List Nat) : Way → Way
  | .h z => .h (o.idxOf z)
  | .x c => .x c
def ren (h : House) (o : List Nat) : House := o.map fun y => (row h y).map (renW o)
theorem ren_len (h : House) (o : List Nat) : (ren h o).length = o.length := by unfold ren; rw [List.length_map]
theorem ren_row {h : House} {o : List Nat} {k : Nat} (hk : k < o.length) : row (ren h o) k = (row h (oAt o k)).map (renW o) := by
  have h1 : (ren h o)[k]? = some (row (ren h o) k) := row_some (by rw [ren_len]; exact hk)
  unfold ren at h1
  rw [List.getElem?_map, oAt_some hk] at h1
  exact (Option.some.inj h1).symm
theorem ren_good {h : House} (g : GoodH h) {o : List Nat} (ho : IsOrd h.length o) : GoodH (ren h o) := by
  have hl : (ren h o).length = h.length := by rw [ren_len, ho.len]
  refine ⟨by rw [hl]; exact g.one, by rw [hl]; exact g.four, fun r hr => ?_, fun r hr n hn => ?_, ?_⟩
  · unfold ren at hr
    obtain ⟨y, hy, rfl⟩ := List.mem_map.mp hr
    rw [List.length_map]
    exact g.rows _ (row_mem (ho.mem.mp hy))
  · unfold ren at hr
    obtain ⟨y, hy, rfl⟩ := List.mem_map.mp hr
    obtain ⟨v, hv, e⟩ := List.mem_map.mp hn
    cases v with
    | x c => cases e
    | h z =>
      cases e
      rw [hl]
      exact idx_lt ho (g.ways _ (row_mem (ho.mem.mp hy)) z hv)
  · obtain ⟨r, hr, c, hc⟩ := g.exit
    obtain ⟨y, hy, e⟩ := List.getElem_of_mem hr
    have er : row h y = r := by
      have := row_some hy
      rw [List.getElem?_eq_getElem hy, e] at this
      exact (Option.some.inj this).symm
    refine ⟨(row h y).map (renW o), List.mem_map.mpr ⟨y, ho.mem.mpr hy, rfl⟩, c, ?_⟩
    rw [er]
    exact List.mem_map.mpr ⟨_, hc, rfl⟩
theorem mem_row_ex {h : House} {c : Ex} : (∃ r ∈ h, Way.x c ∈ r) ↔ ∃ y, y < h.length ∧ Way.x c ∈ row h y := by
  constructor
  · rintro ⟨r, hr, hc⟩
    obtain ⟨y, hy, e⟩ := List.getElem_of_mem hr
    have := row_some hy
    rw [List.getElem?_eq_getElem hy, e] at this
    exact ⟨y, hy, (Option.some.inj this) ▸ hc⟩
  · rintro ⟨y, hy, hc⟩
    exact ⟨_, row_mem hy, hc⟩
theorem ren_ex {h : House} {o : List Nat} (ho : IsOrd h.length o) {k : Nat} (hk : k < h.length) {c : Ex} : Way.x c ∈ row (ren h o) k ↔ Way.x c ∈ row h (oAt o k) := by
  rw [ren_row (by rw [ho.len]; exact hk), List.mem_map]
  constructor
  · rintro ⟨v, hv, e⟩
    cases v with
    | h z => cases e
    | x d => cases e; exact hv
  · intro hv
    exact ⟨_, hv, rfl⟩
theorem ren_exits {h : House} {o : List Nat} (ho : IsOrd h.length o) : exitsOf (ren h o) = exitsOf h := by
  unfold exitsOf
  refine List.filter_congr fun c _ => ?_
  rw [Bool.eq_iff_iff, List.any_eq_true, List.any_eq_true]
  have key : ∀ H : House, (∃ r ∈ H, r.contains (Way.x c) = true) ↔ ∃ y, y < H.length ∧ Way.x c ∈ row H y := fun H => by
    rw [← mem_row_ex]
    constructor
    · rintro ⟨r, h1, h2⟩; exact ⟨r, h1, by simpa using h2⟩
    · rintro ⟨r, h1, h2⟩; exact ⟨r, h1, by simpa using h2⟩
  rw [key, key, ren_len, ho.len]
  constructor
  · rintro ⟨k, hk, hc⟩
    exact ⟨oAt o k, oAt_lt ho hk, (ren_ex ho hk).mp hc⟩
  · rintro ⟨y, hy, hc⟩
    refine ⟨o.idxOf y, idx_lt ho hy, (ren_ex ho (idx_lt ho hy)).mpr ?_⟩
    rw [oAt_idx ho hy]
    exact hc
theorem ren_way {h : House} (g : GoodH h) {o : List Nat} (ho : IsOrd h.length o) {k j : Nat} (hk : k < h.length) : Way.h j ∈ row (ren h o) k ↔ j < h.length ∧ Way.h (oAt o j) ∈ row h (oAt o k) := by
  rw [ren_row (by rw [ho.len]; exact hk), List.mem_map]
  constructor
  · rintro ⟨v, hv, e⟩
    cases v with
    | x c => cases e
    | h z =>
      cases e
      have hz := g.ways _ (row_mem (oAt_lt ho hk)) z hv
      exact ⟨idx_lt ho hz, by rw [oAt_idx ho hz]; exact hv⟩
  · rintro ⟨hj, hv⟩
    exact ⟨_, hv, by show Way.h _ = _; rw [idx_oAt ho hj]⟩
theorem ren_rch {h : House} (g : GoodH h) {o : List Nat} (ho : IsOrd h.length o) {k j : Nat} (hk : k < h.length) : Rch (ren h o) k j ↔ j < h.length ∧ Rch h (oAt o k) (oAt o j) := by
  constructor
  · intro r
    induction r with
    | refl => exact ⟨hk, .refl _⟩
    | step _ m ih =>
      obtain ⟨h1, h2⟩ := ih
      obtain ⟨h3, h4⟩ := (ren_way g ho h1).mp m
      exact ⟨h3, h2.step h4⟩
  · rintro ⟨hj, r⟩
    have key : ∀ z, Rch h (oAt o k) z → Rch (ren h o) k (o.idxOf z) := by
      intro z r
      induction r with
      | refl => rw [idx_oAt ho hk]; exact .refl _
      | @step y z' r1 m ih =>
        have hy := r1.lt g (oAt_lt ho hk)
        have hz := g.ways _ (row_mem hy) z' m
        exact ih.step ((ren_way g ho (idx_lt ho hy)).mpr ⟨idx_lt ho hz, by rw [oAt_idx ho hy, oAt_idx ho hz]; exact m⟩)
    have := key _ r
    rw [idx_oAt ho hj] at this
    exact this
theorem ren_hasEx {h : House} (g : GoodH h) {o : List Nat} (ho : IsOrd h.length o) {k : Nat} (hk : k < h.length) : HasEx (ren h o) k ↔ HasEx h (oAt o k) := by
  unfold HasEx
  constructor
  · rintro ⟨y, r, c, hc⟩
    obtain ⟨hy, r'⟩ := (ren_rch g ho hk).mp r
    exact ⟨oAt o y, r', c, (ren_ex ho hy).mp hc⟩
  · rintro ⟨y, r, c, hc⟩
    have hy := r.lt g (oAt_lt ho hk)
    refine ⟨o.idxOf y, (ren_rch g ho hk).mpr ⟨idx_lt ho hy, by rw [oAt_idx ho hy]; exact r⟩, c, (ren_ex ho (idx_lt ho hy)).mpr ?_⟩
    rw [oAt_idx ho hy]
    exact hc
theorem ren_safe {h : House} (g : GoodH h) {o : List Nat} (ho : IsOrd h.length o) {k : Nat} (hk : k < h.length) : Safe (ren h o) k ↔ Safe h (oAt o k) := by
  unfold Safe
  constructor
  · intro q y r
    have hy := r.lt g (oAt_lt ho hk)
    have := (ren_hasEx g ho (idx_lt ho hy)).mp (q _ ((ren_rch g ho hk).mpr ⟨idx_lt ho hy, by rw [oAt_idx ho hy]; exact r⟩))
    rw [oAt_idx ho hy] at this
    exact this
  · intro q y r
    obtain ⟨hy, r'⟩ := (ren_rch g ho hk).mp r
    exact (ren_hasEx g ho hy).mpr (q _ r')
/-- the order back -/
def backO (n : Nat) (o : List Nat) : List Nat := (List.range n).map o.idxOf
theorem back_at {n : Nat} {o : List Nat} {k : Nat} (hk : k < n) : oAt (backO n o) k = o.idxOf k := by
  have := oAt_some (o := backO n o) (k := k) (by unfold backO; simpa using hk)
  unfold backO at this
  rw [List.getElem?_map, List.getElem?_range hk] at this
  exact (Option.some.inj this).symm
theorem back_ord {n : Nat} {o : List Nat} (h : IsOrd n o) : IsOrd n (backO n o) := by
  have nd : (backO n o).Nodup := by
    unfold backO
    refine List.pairwise_map.mpr ?_
    refine List.nodup_range.imp_of_mem fun {a b} ha hb hne e => hne ?_
    have h1 := oAt_idx h (List.mem_range.mp ha)
    have h2 := oAt_idx h (List.mem_range.mp hb)
    rw [e] at h1
    exact h1.symm.trans h2
  rw [IsOrd, List.perm_iff_count]
  intro a
  have hm : a ∈ backO n o ↔ a ∈ List.range n := by
    unfold backO
    rw [List.mem_map, List.mem_range]
    constructor
    · rintro ⟨k, hk, rfl⟩
      exact idx_lt h (List.mem_range.mp hk)
    · intro ha
      exact ⟨oAt o a, List.mem_range.mpr (oAt_lt h ha), idx_oAt h ha⟩
  rw [List.Nodup.count nd, List.Nodup.count List.nodup_range]
  by_cases q : a ∈ List.range n
  · rw [if_pos q, if_pos (hm.mpr q)]
  · rw [if_neg q, if_neg (fun z => q (hm.mp z))]
theorem house_ext {h h' : House} (e : h.length = h'.length) (k : ∀ i, i < h.length → row h i = row h' i) : h = h' := by
  refine List.ext_getElem? fun i => ?_
  by_cases hi : i < h.length
  · rw [row_some hi, row_some (by omega), k i hi]
  · rw [List.getElem?_eq_none (by omega), List.getElem?_eq_none (by omega)]
theorem map_way {h : House} (g : GoodH h) {f : Way → Way} (hf : ∀ n, n < h.length → f (.h n) = .h n) (hx : ∀ c, f (.x c) = .x c) {y : Nat} (hy : y < h.length) : (row h y).map f = row h y := by
  refine (List.map_congr_left fun v hv => ?_).trans (List.map_id _)
  cases v with
  | h n => exact hf n (g.ways _ (row_mem hy) n hv)
  | x c => exact hx c
theorem ren_back {h : House} (g : GoodH h) {o : List Nat} (ho : IsOrd h.length o) : ren (ren h o) (backO h.length o) = h := by
  have hb := back_ord ho
  have hl : (ren h o).length = h.length := by rw [ren_len, ho.len]
  refine house_ext (by rw [ren_len, hb.len]) fun i hi => ?_
  rw [ren_len, hb.len] at hi
  rw [ren_row (by rw [hb.len]; exact hi), back_at hi, ren_row (by rw [ho.len]; exact idx_lt ho hi), oAt_idx ho hi, List.map_map]
  refine map_way g (fun n hn => ?_) (fun c => rfl) hi
  show Way.h ((backO h.length o).idxOf (o.idxOf n)) = Way.h n
  rw [← back_at hn, idx_oAt hb hn]
theorem ren_id {h : House} (g : GoodH h) : ren h (List.range h.length) = h := by
  have ho : IsOrd h.length (List.range h.length) := List.Perm.refl _
  have e : ∀ k, k < h.length → oAt (List.range h.length) k = k := fun k hk => by
    have := oAt_some (o := List.range h.length) (k := k) (by simpa using hk)
    rw [List.getElem?_range hk] at this
    exact (Option.some.inj this).symm
  refine house_ext (by rw [ren_len, ho.len]) fun i hi => ?_
  rw [ren_len, ho.len] at hi
  rw [ren_row (by rw [ho.len]; exact hi), e i hi]
  refine map_way g (fun n hn => ?_) (fun c => rfl) hi
  show Way.h ((List.range h.length).idxOf n) = Way.h n
  have := idx_oAt ho hn
  rw [e n hn] at this
  rw [this]
end TH

namespace TH
theorem erase_perm {α : Type} : ∀ {l : List α} {m : Nat} {x : α}, l[m]? = some x → (x :: l.eraseIdx m).Perm l
  | [], m, x, h => by simp at h
  | y :: l, 0, x, h => by
    simp at h
    subst h
    exact List.Perm.refl _
  | y :: l, m + 1, x, h => by
    have := erase_perm (l := l) (m := m) (x := x) (by simpa using h)
    exact (List.Perm.swap y x (l.eraseIdx m)).trans (this.cons y)
theorem erase_map {α β : Type} (f : α → β) : ∀ (l : List α) (m : Nat), (l.map f).eraseIdx m = (l.eraseIdx m).map f
  | [], _ => rfl
  | _ :: _, 0 => rfl
  | y :: l, m + 1 => by
    show f y :: (l.map f).eraseIdx m = f y :: (l.eraseIdx m).map f
    rw [erase_map f l m]
theorem idx_le {x : Nat} : ∀ {o : List Nat} {m : Nat}, o[m]? = some x → o.idxOf x ≤ m
  | [], m, h => by simp at h
  | y :: o, 0, h => by
    simp at h
    subst h
    simp
  | y :: o, m + 1, h => by
    have := idx_le (o := o) (m := m) (by simpa using h)
    rw [List.idxOf_cons]
    cases (y == x) with
    | true => simp
    | false => simp; omega
end TH

namespace TK
open PySem L2 TH
def topS (i : Nat) : Stmt := PySem.Challenge.pw_turnhalls_k02_whole_houses.main.body.getD i (.Pass ⟨0, 0, 0, 0⟩)
abbrev s_is_between : Stmt := topS 7
abbrev s_is_way : Stmt := topS 8
abbrev s_is_house : Stmt := topS 9
abbrev s_check_house : Stmt := topS 10
abbrev s_check_hall : Stmt := topS 11
abbrev s_found_exits : Stmt := topS 12
abbrev s_exits : Stmt := topS 13
abbrev s_met_from : Stmt := topS 14
abbrev s_reached : Stmt := topS 15
abbrev s_has_exit : Stmt := topS 16
abbrev s_is_safe : Stmt := topS 17
abbrev s_safe_halls : Stmt := topS 18
abbrev s_renamed : Stmt := topS 19
abbrev s__law_town : Stmt := topS 21
abbrev s__law_draw : Stmt := topS 22
abbrev s__law_pick : Stmt := topS 23
abbrev s__law_house : Stmt := topS 24
abbrev s__law_exits : Stmt := topS 25
abbrev s__law_reach : Stmt := topS 26
abbrev s__law_safe : Stmt := topS 27
abbrev s_law : Stmt := topS 28
end TK

namespace TH
open PySem L2 PyProof.Rows
/-- the built-in names are as they were -/
structure Bts (mg : Str → Option Value) : Prop where
  isinstance : mg "isinstance" = none
  int : mg "int" = none
  bool : mg "bool" = none
  str : mg "str" = none
  tuple : mg "tuple" = none
  list : mg "list" = none
  dict : mg "dict" = none
  set : mg "set" = none
  len : mg "len" = none
  range : mg "range" = none
  sorted : mg "sorted" = none
  any : mg "any" = none
  all : mg "all" = none
  sum : mg "sum" = none
  abs : mg "abs" = none
  max : mg "max" = none
  min : mg "min" = none
  zip : mg "zip" = none
  enumerate : mg "enumerate" = none
/-- the def st of the text stands under the name n -/
structure Lnk (K : PySem.W.Frag) (mg : Str → Option Value) (n : Str) (st : Stmt) (ps : List Str) : Prop where
  ex : ∃ f fd, mg n = some (.ref f) ∧ Fun K n n st f fd ∧ Binds K fd ps []
theorem Lnk.fnD {P : Program} {w : World} {K : PySem.W.Frag} {mg : Str → Option Value} {base : Heap} {n : Str} {st : Stmt} {ps : List Str} {k : Nat} {sp : Sp} (L : Lnk K mg n st ps) (h : ∀ f fd, Fun K n n st f fd → FnOk P w K mg base CX0 k f fd ps sp) : FnD P w K mg base k n sp := by
  obtain ⟨f, fd, h1, h2, h3⟩ := L.ex
  exact ⟨f, fd, ps, h1, h2.kp, h3, h f fd h2⟩
/-- the module's name EXITS -/
structure GEx (K : PySem.W.Frag) (mg : Str → Option Value) : Prop where
  ex : ∃ a, mg "EXITS" = some (.ref a) ∧ ∀ H, Dq K H (.ref a) (.tuple exD)
theorem gex_mk {K : PySem.W.Frag} {mg : Str → Option Value} {f : Addr} {od : Option Addr} {sl : Array (Option Value)} {n : Nat} {t1 t2 t3 : Tok} (hm : mg "EXITS" = some (.ref f)) (l : K.lookup f = some ⟨.type "tuple", od, .seq #[.str "A" t1, .str "B" t2, .str "C" t3] n, sl⟩) : GEx K mg :=
  ⟨f, hm, fun H => .tup (xs := [.str "A", .str "B", .str "C"]) (.inr ⟨_, _, _, l, rfl, rfl, show 3 ≤ sizeLine by decide, .cons ⟨t1, rfl⟩ (.cons ⟨t2, rfl⟩ (.cons ⟨t3, rfl⟩ .nil))⟩) (.cons (.str _) (.cons (.str _) (.cons (.str _) .nil)))⟩
theorem ev_exits {X : Cx} {r : List (Option PyData)} {pos : Pos} (G : GEx X.K X.mg) (hg : Gl X "EXITS") : EV X (.Name "EXITS" pos) r (.tuple exD) := by
  obtain ⟨a, h1, h2⟩ := G.ex
  exact ev_glob (v := .ref a) hg h1 rfl h2 (by decide)
end TH

namespace TK
open PySem L2 TH PyProof.Rows
section
variable {P : Program} {w : World} {K : PySem.W.Frag} {mg : Str → Option Value} {base : Heap} {f : Addr} {fd : FuncData}
/-! ### is_between -/
def r_is_between (ds : List PyData) (z : PyData) : Prop := ∃ (d : PyData) (lo hi : Int), ds = [d, .int lo, .int hi] ∧ z = .bool (isBtw d lo hi)
theorem sc_is_between : FnScope ["value", "low", "high"] ["value", "low", "high"] (defScope s_is_between) := ⟨rfl, rfl, rfl, by decide +kernel, rfl, by decide +kernel, by decide +kernel⟩
theorem fd_is_between (L : Lnk K mg "is_between" s_is_between ["value", "low", "high"]) (T : Bts mg) : FnD P w K mg base 1 "is_between" (spR K 3 r_is_between) := L.fnD fun f fd F => by
  refine Fun.okD F sc_is_between rfl (by decide) fun cdv A outer s H Q E ds z σ hr rel hl q A0 => ?_
  obtain ⟨d, lo, hi, rfl, rfl⟩ := rel
  refine go_ret A0 (EV.cast (ev_and (y := isBtw d lo hi) (ev_isInt (ev_var (i := 0) rfl (.inl rfl) rfl) rfl T.isinstance rfl T.int) fun h1 => EV.cast (ev_and (y := isBtw d lo hi) (ev_not (ev_isBool (ev_var (i := 0) rfl (.inl rfl) rfl) rfl T.isinstance rfl T.bool)) fun h2 => ?_) ?_) ?_) q
  · cases d with
    | int i => exact ev_one (ev_chain (ev_var (i := 1) rfl (.inl rfl) rfl) (ev_var (i := 0) rfl (.inl rfl) rfl) (fun _ => (ev_var (i := 2) rfl (.inl rfl) rfl)) oc_le (fun _ => oc_le))
    | bool b => cases h2
    | none => cases h1
    | str z => cases h1
    | list l => cases h1
    | tuple l => cases h1
    | dict l => cases h1
  · cases d with
    | int i => rfl
    | bool b => rfl
    | none => rfl
    | str z => rfl
    | list l => rfl
    | tuple l => rfl
    | dict l => rfl
  · cases d with
    | int i => rfl
    | bool b => rfl
    | none => rfl
    | str z => rfl
    | list l => rfl
    | tuple l => rfl
    | dict l => rfl
/-! ### is_way -/
def r_is_way (ds : List PyData) (z : PyData) : Prop := ∃ (d : PyData) (n : Int), ds = [d, .int n] ∧ SeqAt.shaped d = true ∧ z = .bool (isWayD d n)
theorem sh_exD : SeqAt.shaped (.tuple exD) = true := by decide +kernel
theorem sc_is_way : FnScope ["value", "halls"] ["value", "halls"] (defScope s_is_way) := ⟨rfl, rfl, rfl, by decide +kernel, rfl, by decide +kernel, by decide +kernel⟩
theorem fd_is_way (L : Lnk K mg "is_way" s_is_way ["value", "halls"]) (T : Bts mg) (G : GEx K mg) (F1 : FnD P w K mg base 1 "is_between" (spR K 3 r_is_between)) : FnD P w K mg base 2 "is_way" (spR K 2 r_is_way) := L.fnD fun f fd F => by
  refine Fun.okD F sc_is_way rfl (by decide) fun cdv A outer s H Q E ds z σ hr rel hl q A0 => ?_
  obtain ⟨d, n, rfl, hs, rfl⟩ := rel
  refine go_ret A0 (EV.cast (ev_or (ev_call F1 (hr.mono (by decide)) rfl (es_cons (ev_var (i := 0) rfl (.inl rfl) rfl) (es_cons ev_int (es_cons (ev_bin (ev_var (i := 1) rfl (.inl rfl) rfl) ev_int od_sub) es_nil))) rfl ⟨d, 0, n - 1, rfl, rfl⟩) fun _ =>
    (ev_one (ev_and (ev_isStr (ev_var (i := 0) rfl (.inl rfl) rfl) rfl T.isinstance rfl T.str) fun _ => (ev_one (ev_cmp (ev_var (i := 0) rfl (.inl rfl) rfl) (ev_exits G rfl) (oc_inT hr hs sh_exD) (by rfl)))))) rfl) q
/-! ### is_house -/
def r_is_house (ds : List PyData) (z : PyData) : Prop := ∃ (d : PyData), ds = [d] ∧ noL d = true ∧ SeqAt.shaped d = true ∧ (tupOf d).length ≤ 1000 ∧ (∀ r ∈ tupOf d, (tupOf r).length ≤ 1000) ∧ z = .bool (isHouseD d)
theorem sc_is_house : FnScope ["value", "hall", "way"] ["value"] (defScope s_is_house) := ⟨rfl, rfl, rfl, by decide +kernel, rfl, by decide +kernel, by decide +kernel⟩
theorem shaped_tup {ds : List PyData} (h : SeqAt.shaped (.tuple ds) = true) : ∀ d ∈ ds, SeqAt.shaped d = true := fun d hd => by
  rw [shaped_iff] at h ⊢
  obtain ⟨h1, h2⟩ := h
  simp only [PyData.canLay0] at h1
  simp only [PyData.depth] at h2
  have h3 : PyData.depthAll ds ≤ 63 := by omega
  exact ⟨layAll_iff.mp h1 d hd, Nat.le_trans (depthAll_le.mp h3 d hd) (by omega)⟩
theorem noL_tup {ds : List PyData} (h : noL (.tuple ds) = true) : ∀ d ∈ ds, noL d = true := noLs_iff.mp (by simpa [noL] using h)
/-- a test that a datum is a tuple of so many items -/
theorem tup_test {d : PyData} {a b : Int} (h : (!isTupD d || !(decide (a ≤ ((tupOf d).length : Int)) && decide (((tupOf d).length : Int) ≤ b))) = false) : ∃ l, d = .tuple l ∧ a ≤ (l.length : Int) ∧ (l.length : Int) ≤ b := by
  cases d with
  | tuple l =>
    have h' : (!(decide (a ≤ (l.length : Int)) && decide ((l.length : Int) ≤ b))) = false := h
    rw [Bool.not_eq_false', Bool.and_eq_true] at h'
    exact ⟨l, rfl, of_decide_eq_true h'.1, of_decide_eq_true h'.2⟩
  | int i => cases h
  | bool b => cases h
  | none => cases h
  | str z => cases h
  | list l => cases h
  | dict l => cases h
theorem tup_testN {d : PyData} {a b : Nat} (h : (!isTupD d || !(decide ((a : Int) ≤ ((tupOf d).length : Int)) && decide (((tupOf d).length : Int) ≤ (b : Int)))) = true) : (isTupD d && (decide (a ≤ (tupOf d).length) && decide ((tupOf d).length ≤ b))) = false := by
  cases hd : isTupD d with
  | false => rfl
  | true =>
    rw [hd] at h
    cases hc : (decide (a ≤ (tupOf d).length) && decide ((tupOf d).length ≤ b)) with
    | false => rfl
    | true =>
      rw [Bool.and_eq_true, decide_eq_true_eq, decide_eq_true_eq] at hc
      rw [decide_eq_true (by omega), decide_eq_true (by omega)] at h
      cases h
theorem row_bad {l : List PyData} {r : PyData} (hm : r ∈ l) (h : rowOk l.length r = false) : isHouseD (.tuple l) = false := by
  have e1 : l.all (rowOk l.length) = false := by
    cases h' : l.all (rowOk l.length) with
    | false => rfl
    | true => rw [List.all_eq_true.mp h' r hm] at h; cases h
  unfold isHouseD
  simp only [tupOf]
  rw [e1, Bool.and_false, Bool.false_and]
theorem any_rows (l : List PyData) : (l.flatMap (row2 tupOf (fun _ => true) (fun _ _ => true) fun _ e => .bool (isStrD e))) = ((l.flatMap tupOf).map fun e => PyData.bool (isStrD e)) := by
  induction l with
  | nil => rfl
  | cons d l ih =>
    rw [List.flatMap_cons, List.flatMap_cons, List.map_append, ih]
    have e : (tupOf d).filter (fun _ => true) = tupOf d := List.filter_eq_self.mpr fun _ _ => rfl
    unfold row2
    rw [if_pos rfl, e]
theorem fd_is_house (L : Lnk K mg "is_house" s_is_house ["value"]) (T : Bts mg) (F1 : FnD P w K mg base 2 "is_way" (spR K 2 r_is_way)) : FnD P w K mg base 3 "is_house" (spR K 1 r_is_house) := L.fnD fun f fd F => by
  refine Fun.okD F sc_is_house rfl (by decide) fun cdv A outer s H Q E ds z σ hr rel hl q A0 => ?_
  obtain ⟨d, rfl, hn, hs, hz, hz2, rfl⟩ := rel
  -- if not isinstance(value, tuple) or not 1 <= len(value) <= 4: return False
  refine go_if (b := !isTupD d || !(decide ((1 : Int) ≤ ((tupOf d).length : Int)) && decide (((tupOf d).length : Int) ≤ 4))) A0 (EVW.t (ew_or (et_not (et_val (ev_isTuple (ev_var (i := 0) rfl (.inr (.inl rfl)) rfl) rfl T.isinstance rfl T.tuple))) fun h1 => (ew_or1 (et_not ?_)))) (fun hb H1 A1 => ?_) (fun hb H1 A1 => ?_)
  · cases d with
    | tuple l => exact et_chain ev_int (ev_callB ca_lenT rfl T.len (by decide +kernel) (es_cons (ev_var (i := 0) rfl (.inr (.inl rfl)) rfl) es_nil)) (fun _ => ev_int) oc_le (fun _ => oc_le)
    | int i => cases h1
    | bool b => cases h1
    | none => cases h1
    | str z => cases h1
    | list l => cases h1
    | dict l => cases h1
  · refine go_ret A1 ev_bl ?_
    have e : isHouseD d = false := by
      have e0 := tup_testN (a := 1) (b := 4) hb
      unfold isHouseD
      rw [e0]
      rfl
    rw [e] at q
    exact q
  · obtain ⟨l, rfl, l1, l2⟩ := tup_test hb
    refine go_nil ?_
    -- for hall in value
    refine go_for (ds := l) (u := fun d ρ => ρ.set 1 (.im d)) (Iv := fun i ρ => ∃ x, ρ = [.im (.tuple l), x, .no] ∧ (l.take i).all (rowOk l.length) = true) A1 PassesOwn.never rfl (ev_var (i := 0) rfl (.inr (.inl rfl)) rfl) (by simpa [noL] using hn) (pg_name (i := 1) sc_is_house.nd rfl (.inl rfl)) (fun d _ => ra_name 1 d) ⟨.no, rfl, rfl⟩ ?_ ?_
    · rintro γ' i r ρ' σ' H' hr' ⟨x, rfl, hall⟩ A2
      have hm : r ∈ l := List.mem_of_getElem? hr'
      have hrs := shaped_tup hs r hm
      -- if not isinstance(hall, tuple) or not 1 <= len(hall) <= 3: return False
      refine go_if (b := !isTupD r || !(decide ((1 : Int) ≤ ((tupOf r).length : Int)) && decide (((tupOf r).length : Int) ≤ 3))) A2 (EVW.t (ew_or (et_not (et_val (ev_isTuple (ev_var (i := 1) rfl (.inl rfl) rfl) rfl T.isinstance rfl T.tuple))) fun h1 => (ew_or1 (et_not ?_)))) (fun hb H3 A3 => ?_) (fun hb H3 A3 => ?_)
      · cases r with
        | tuple l => exact et_chain ev_int (ev_callB ca_lenT rfl T.len (by decide +kernel) (es_cons (ev_var (i := 1) rfl (.inl rfl) rfl) es_nil)) (fun _ => ev_int) oc_le (fun _ => oc_le)
        | int i => cases h1
        | bool b => cases h1
        | none => cases h1
        | str z => cases h1
        | list l => cases h1
        | dict l => cases h1
      · refine go_ret A3 ev_bl ?_
        have e := row_bad hm (by
          have e0 := tup_testN (a := 1) (b := 3) hb
          unfold rowOk
          rw [e0]
          rfl)
        rw [e] at q
        exact q
      · obtain ⟨ws, rfl, w1, w2⟩ := tup_test hb
        refine go_nil ?_
        -- if not all([is_way(way, len(value)) for way in hall]): return False
        refine go_if (b := !(ws.all fun d => isWayD d l.length)) A3 (et_not (et_val (ev_callB (ca_allM (g := fun d => isWayD d l.length) rfl) rfl T.all (by decide +kernel) (es_cons (EVL.ev (el_map (ds := ws) (u := fun d r => r.set 2 (some d)) (own := [("way", 2)]) (sl := [2]) (f := fun d => .bool (isWayD d l.length)) rfl sc_is_house.nd (it_tupS (ev_var (i := 1) rfl (.inl rfl) rfl)) (blkOk_by (N := ["value", "hall", "way"]) (sc := defScope s_is_house) (by decide +kernel)) (fun _ _ _ _ _ => (pg_name (i := 2) sc_is_house.nd rfl (.inl rfl))) (fun d _ => rg_name 2 d) (by decide)
          (fun d hd _ _ _ _ _ => (ev_call F1 (hr.mono (by decide)) rfl (es_cons (ev_var (i := 2) rfl (.inl rfl) rfl) (es_cons (ev_callB ca_lenT rfl T.len (by decide +kernel) (es_cons (ev_var (i := 0) rfl (.inr (.inl rfl)) rfl) es_nil)) es_nil)) rfl ⟨d, l.length, rfl, shaped_tup hrs d hd, rfl⟩)) (fun _ _ => rfl) (Nat.le_trans (hz2 _ hm) (by decide)))) es_nil)))) (fun hb2 H4 A4 => ?_) (fun hb2 H4 A4 => ?_)
        · refine go_ret A4 ev_bl ?_
          have e := row_bad hm (by
            unfold rowOk
            simp only [tupOf]
            rw [Bool.not_eq_true'] at hb2
            rw [hb2, Bool.and_false])
          rw [e] at q
          exact q
        · refine go_nil (go_nil ⟨_, ⟨.im (.tuple ws), rfl, ?_⟩, A4⟩)
          rw [take_succ hr', List.all_append, hall, Bool.true_and]
          simp only [List.all_cons, List.all_nil, Bool.and_true]
          show ((true && (decide (1 ≤ ws.length) && decide (ws.length ≤ 3))) && ws.all fun w => isWayD w l.length) = true
          rw [decide_eq_true (show 1 ≤ ws.length by omega), decide_eq_true (show ws.length ≤ 3 by omega)]
          simpa using hb2
    · rintro ρ' σ' H' ⟨x, rfl, hall⟩ A2
      rw [List.take_length] at hall
      -- return any([isinstance(way, str) for hall in value for way in hall])
      refine go_ret A2 (d := .bool ((l.flatMap tupOf).any isStrD)) (ev_callB (ca_anyM (g := isStrD) rfl) rfl T.any (by decide +kernel) (es_cons (EVL.ev (EVL.cast (el_lc2 (ds := l) (rb := [some (.tuple l), none, none]) (u := fun d r => r.set 1 (some d)) (u1 := fun d r => r.set 2 (some d)) (own := [("hall", 1), ("way", 2)]) (vs1 := [2]) (sl := [1]) (sl1 := [2]) (es := tupOf) (pt := fun _ => true) (pt1 := fun _ _ => true) (f := fun _ e => .bool (isStrD e)) rfl sc_is_house.nd (it_tupS (ev_var (i := 0) rfl (.inr (.inl rfl)) rfl)) (blkOk_by (N := ["value", "hall", "way"]) (sc := defScope s_is_house) (by decide +kernel)) (by decide) (fun _ _ _ _ _ => (pg_name (i := 1) sc_is_house.nd rfl (.inl rfl))) (fun _ _ _ _ _ => (pg_name (i := 2) sc_is_house.nd rfl (.inl rfl)))
        ?_ (fun d _ => rg_name 1 d) (by decide) (fun d _ e _ => rg_name 2 e) (by decide) ?_ (fun d hd _ _ _ _ _ => ets_nil) ?_ (fun d hd hp e he _ _ _ _ _ => ets_nil) (fun d hd hp e he hq _ _ _ _ _ => (ev_isStr (ev_var (i := 2) rfl (.inl rfl) rfl) rfl T.isinstance rfl T.str)) (fun _ _ _ _ _ _ => rfl) ?_ ?_) (any_rows l))) es_nil)) ?_
      · refine ⟨rfl, fun i d h => ?_⟩
        match i with
        | 0 => exact h
        | 1 => cases h
        | 2 => cases h
        | n + 3 => cases h
      · intro d hd
        show (noL (.tuple l) && (noL d && (true && true))) = true
        rw [hn, noL_tup hn d hd]
        rfl
      · intro d hd hp _ _ _ _ _
        obtain ⟨ws, rfl⟩ : ∃ ws, d = .tuple ws := by
          have := List.all_eq_true.mp hall d hd
          unfold rowOk at this
          cases d with
          | tuple ws => exact ⟨ws, rfl⟩
          | int i => cases this
          | bool b => cases this
          | none => cases this
          | str z => cases this
          | list l => cases this
          | dict l => cases this
        exact it_tup (ev_var (i := 1) rfl (.inl rfl) rfl) (by have := noL_tup hn _ hd; show noLs ws = true; simpa [noL] using this)
      · intro i
        have h1 : ∀ k : List PyData, (∀ d ∈ k, (tupOf d).length ≤ 3) → (k.flatMap (row2 tupOf (fun _ => true) (fun _ _ => true) fun _ e => PyData.bool (isStrD e))).length ≤ 3 * k.length := fun k => by
          induction k with
          | nil => intro _; simp
          | cons d k ih =>
            intro h
            rw [List.flatMap_cons, List.length_append, List.length_cons]
            have a1 := ih fun e he => h e (List.mem_cons_of_mem _ he)
            have a2 : (row2 tupOf (fun _ => true) (fun _ _ => true) (fun _ e => PyData.bool (isStrD e)) d).length ≤ 3 := by
              unfold row2
              rw [if_pos rfl, List.length_map]
              exact Nat.le_trans (List.length_filter_le _ _) (h d List.mem_cons_self)
            omega
        refine Nat.le_trans (h1 _ fun d hd => ?_) (by rw [List.length_take]; omega)
        have := List.all_eq_true.mp hall d (List.mem_of_mem_take hd)
        unfold rowOk at this
        simp only [Bool.and_eq_true, decide_eq_true_eq] at this
        omega
      · intro d hd
        exact Nat.le_trans (hz2 d hd) (by decide)
      · have e : isHouseD (.tuple l) = (l.flatMap tupOf).any isStrD := by
          rw [List.any_flatMap]
          show ((true && (decide (1 ≤ l.length) && decide (l.length ≤ 4)) && l.all (rowOk l.length)) && _) = _
          rw [hall, decide_eq_true (show 1 ≤ l.length by omega), decide_eq_true (show l.length ≤ 4 by omega)]
          rfl
        rw [e] at q
        exact q
/-! ### check_house, of a house -/
def r_check_house (ds : List PyData) (z : PyData) : Prop := ∃ h : House, GoodH h ∧ ds = [dH h] ∧ z = .none
theorem sc_check_house : FnScope ["value"] ["value"] (defScope s_check_house) := ⟨rfl, rfl, rfl, by decide +kernel, rfl, by decide +kernel, by decide +kernel⟩
theorem house_isR {h : House} (g : GoodH h) : r_is_house [dH h] (.bool true) := by
  refine ⟨dH h, rfl, noL_H h, (sh_H h).shaped (by decide), ?_, fun r hr => ?_, by rw [isHouse_ok g]⟩
  · show (h.map dR).length ≤ 1000
    rw [List.length_map]
    have := g.four
    omega
  · obtain ⟨q, hq, rfl⟩ := List.mem_map.mp (show r ∈ h.map dR from hr)
    show (q.map dW).length ≤ 1000
    rw [List.length_map]
    have := (g.rows q hq).2
    omega
theorem fd_check_house (L : Lnk K mg "check_house" s_check_house ["value"]) (F1 : FnD P w K mg base 3 "is_house" (spR K 1 r_is_house)) : FnD P w K mg base 4 "check_house" (spR K 1 r_check_house) := L.fnD fun f fd F => by
  refine Fun.okD F sc_check_house rfl (by decide) fun cdv A outer s H Q E ds z σ hr rel hl q A0 => ?_
  obtain ⟨h, g, rfl, rfl⟩ := rel
  refine go_ifF A0 (EVT.cast (et_not (et_val (ev_call F1 (hr.mono (by decide)) rfl (es_cons (ev_var (i := 0) rfl (.inl rfl) rfl) es_nil) rfl (house_isR g)))) rfl) fun H1 A1 => go_nil ?_
  exact q .non H1 A1.same .non
end
end TK

namespace TK
open PySem L2 TH PyProof.Rows
section
variable {P : Program} {w : World} {K : PySem.W.Frag} {mg : Str → Option Value} {base : Heap} {f : Addr} {fd : FuncData}
/-! ### check_hall, of a hall -/
def r_check_hall (ds : List PyData) (z : PyData) : Prop := ∃ (h : House) (x : Nat), GoodH h ∧ x < h.length ∧ ds = [dH h, dN x] ∧ z = .none
theorem sc_check_hall : FnScope ["house", "hall"] ["house", "hall"] (defScope s_check_hall) := ⟨rfl, rfl, rfl, by decide +kernel, rfl, by decide +kernel, by decide +kernel⟩
theorem dH_len (h : House) : (h.map dR).length = h.length := List.length_map _
theorem fd_check_hall (L : Lnk K mg "check_hall" s_check_hall ["house", "hall"]) (T : Bts mg) (F1 : FnD P w K mg base 1 "is_between" (spR K 3 r_is_between)) : FnD P w K mg base 2 "check_hall" (spR K 2 r_check_hall) := L.fnD fun f fd F => by
  refine Fun.okD F sc_check_hall rfl (by decide) fun cdv A outer s H Q E ds z σ hr rel hl q A0 => ?_
  obtain ⟨h, x, g, hx, rfl, rfl⟩ := rel
  refine go_ifF A0 (EVT.cast (et_not (et_val (ev_call F1 (hr.mono (by decide)) rfl (es_cons (ev_var (i := 1) rfl (.inl rfl) rfl) (es_cons ev_int (es_cons (ev_bin (ev_callB ca_lenT rfl T.len (by decide +kernel) (es_cons (ev_var (i := 0) rfl (.inl rfl) rfl) es_nil)) ev_int od_sub) es_nil))) rfl ⟨_, _, _, rfl, rfl⟩))) ?_) fun H1 A1 => go_nil (q .non H1 A1.same .non)
  show (!(decide ((0 : Int) ≤ (x : Int)) && decide ((x : Int) ≤ ((h.map dR).length : Int) - 1))) = false
  rw [dH_len, decide_eq_true (show (0 : Int) ≤ (x : Int) by omega), decide_eq_true (show (x : Int) ≤ (h.length : Int) - 1 by omega)]
  rfl
/-! ### found_exits, exits -/
def r_found_exits (ds : List PyData) (z : List PyData) : Prop := ∃ (h : House), GoodH h ∧ ds = [dH h] ∧ z = (exitsOf h).map dX
theorem sc_found_exits : FnScope ["house", "hall", "way"] ["house"] (defScope s_found_exits) := ⟨rfl, rfl, rfl, by decide +kernel, rfl, by decide +kernel, by decide +kernel⟩
def isX : Way → Bool
  | .x _ => true
  | _ => false
theorem isStr_dW (v : Way) : isStrD (dW v) = isX v := by cases v <;> rfl
theorem exits_rows (h : House) : rows2 h (fun r => r) (fun _ v => isX v) (fun _ v => dW v) = (exitWays h).map dX := by
  unfold rows2 exitWays
  induction h with
  | nil => rfl
  | cons r l ih =>
    rw [List.flatMap_cons, List.flatMap_cons, List.map_append, ih]
    congr 1
    induction r with
    | nil => rfl
    | cons v r ihr =>
      cases v with
      | h n =>
        rw [List.filterMap_cons_none (show exW (.h n) = none from rfl), List.filter_cons_of_neg (by simp [isX])]
        exact ihr
      | x c =>
        rw [List.filterMap_cons_some (show exW (.x c) = some c from rfl), List.filter_cons_of_pos (by simp [isX]), List.map_cons, List.map_cons, ihr]
        rfl
theorem map_exS (l : List Ex) : l.map dX = (l.map exS).map PyData.str := by rw [List.map_map]; rfl
theorem exitWays_len {h : House} (g : GoodH h) : (exitWays h).length ≤ 12 := by
  have q : (rows2 h (fun r => r) (fun _ v => isX v) (fun _ v => dW v)).length ≤ 4 * 3 := rows2_len (fun r hr => (g.rows r hr).2) g.four
  rw [exits_rows, List.length_map] at q
  exact q
theorem fd_found_exits (L : Lnk K mg "found_exits" s_found_exits ["house"]) (T : Bts mg) : FnD P w K mg base 1 "found_exits" (spL K 1 r_found_exits) := L.fnD fun f fd F => by
  refine Fun.okL F sc_found_exits rfl (by decide) fun cdv A outer s H Q E ds z σ hr rel hl q A0 => ?_
  obtain ⟨h, g, rfl, rfl⟩ := rel
  refine go_retL A0 (ds := (exitsOf h).map dX) (EVL.cast (el_srtS (xs := (exitWays h).map exS) (zs := (exitsOf h).map exS) (EV.cast (EVL.ev (el_lc2T (n := 4) (m := 3) (ns := h) (enc := dR) (dec := rwOf) (enc1 := dW) (dec1 := wayOf) (es := fun r => r) (pt1 := fun _ v => isX v) (f2 := fun _ v => dW v) (rb := [some (dH h), none, none]) (u := fun d r => r.set 1 (some d)) (u1 := fun d r => r.set 2 (some d)) (own := [("hall", 1), ("way", 2)]) (vs1 := [2]) (sl := [1]) (sl1 := [2]) (fun _ _ => rwOf_d _) (fun _ _ _ _ => wayOf_d _) rfl sc_found_exits.nd (it_tupS (ev_var (i := 0) rfl (.inl rfl) rfl)) (blkOk_by (N := ["house", "hall", "way"]) (sc := defScope s_found_exits) (by decide +kernel)) (by decide) (fun _ _ _ _ _ => (pg_name (i := 1) sc_found_exits.nd rfl (.inl rfl))) (fun _ _ _ _ _ => (pg_name (i := 2) sc_found_exits.nd rfl (.inl rfl)))
    (Sub.refl _) (fun d _ => rg_name 1 _) (by decide) (fun d _ e _ => rg_name 2 _) (by decide) ?_ (fun r hr _ _ _ _ _ => (it_tup (ev_var (i := 1) rfl (.inl rfl) rfl) (noLs_map noL_W r))) (fun d hd e he _ _ _ _ _ => ets_one (EVT.cast (et_val (ev_isStr (ev_var (i := 2) rfl (.inl rfl) rfl) rfl T.isinstance rfl T.str)) (isStr_dW e))) (fun d hd e he hq _ _ _ _ _ => (ev_var (i := 2) rfl (.inl rfl) rfl)) (fun _ _ v _ _ => noL_W v) (fun r hr => (g.rows r hr).2) g.four (by decide) (by decide))) (by rw [exits_rows, map_exS])) ?_ ?_ rfl rfl T.sorted rfl T.set) (map_exS _).symm) ?_
  · intro r hr
    show (noL (dH h) && (noL (dR r) && (true && true))) = true
    rw [noL_H, noL_R]
    rfl
  · rw [List.length_map]
    exact Nat.le_trans (exitWays_len g) (by decide)
  · refine srtS_is ?_ (exitsOf_sorted h) fun k => ?_
    · exact List.pairwise_map.mpr ((exitsOf_nodup h).imp fun hne he => hne (exS_inj he))
    · rw [List.mem_map, List.mem_map]
      constructor
      · rintro ⟨c, hc, rfl⟩
        exact ⟨c, mem_exitWays.mpr (mem_exitsOf.mp hc), rfl⟩
      · rintro ⟨c, hc, rfl⟩
        exact ⟨c, mem_exitsOf.mpr (mem_exitWays.mp hc), rfl⟩
  · intro p vs H' h1 h2 h3 h4
    exact q _ _ ⟨p, vs, rfl, h1, h2, h3, h4⟩
def r_exits (ds : List PyData) (z : PyData) : Prop := ∃ (h : House), GoodH h ∧ ds = [dH h] ∧ z = .tuple ((exitsOf h).map dX)
theorem sc_exits : FnScope ["house"] ["house"] (defScope s_exits) := ⟨rfl, rfl, rfl, by decide +kernel, rfl, by decide +kernel, by decide +kernel⟩
theorem fd_exits (L : Lnk K mg "exits" s_exits ["house"]) (T : Bts mg) (F1 : FnD P w K mg base 4 "check_house" (spR K 1 r_check_house)) (F2 : FnD P w K mg base 1 "found_exits" (spL K 1 r_found_exits)) : FnD P w K mg base 5 "exits" (spR K 1 r_exits) := L.fnD fun f fd F => by
  refine Fun.okD F sc_exits rfl (by decide) fun cdv A outer s H Q E ds z σ hr rel hl q A0 => ?_
  obtain ⟨h, g, rfl, rfl⟩ := rel
  refine go_expr A0 (ev_call F1 (hr.mono (by decide)) rfl (es_cons (ev_var (i := 0) rfl (.inl rfl) rfl) es_nil) rfl ⟨h, g, rfl, rfl⟩) fun H1 A1 => ?_
  exact go_ret A1 (ev_callTy ca_tupleL rfl T.tuple (by decide +kernel) (es_cons (EVL.ev (el_call F2 (hr.mono (by decide)) rfl (es_cons (ev_var (i := 0) rfl (.inl rfl) rfl) es_nil) rfl ⟨h, g, rfl, rfl⟩)) es_nil)) q
end
end TK

namespace TK
open PySem L2 TH PyProof.Rows
/-! ### what met_from does -/
/-- met and waiting; the row of y is done up to the way number i -/
structure MetI (h : House) (x : Nat) (ms ws : List Nat) (y : Option (Nat × Nat)) : Prop where
  nd : ms.Nodup
  st : x ∈ ms
  rc : ∀ m ∈ ms, Rch h x m
  sub : ∀ m ∈ ws, m ∈ ms
  cl : ∀ m ∈ ms, m ∈ ws ∨ (∃ i, y = some (m, i)) ∨ ∀ z, Way.h z ∈ row h m → z ∈ ms
  part : ∀ m i, y = some (m, i) → m ∈ ms ∧ ∀ z, Way.h z ∈ (row h m).take i → z ∈ ms
theorem MetI.start (h : House) (x : Nat) : MetI h x [x] [x] none := by
  refine ⟨by simp, by simp, fun m hm => ?_, fun m hm => hm, fun m hm => .inl hm, fun m i e => by cases e⟩
  rw [List.mem_singleton] at hm
  subst hm
  exact .refl _
theorem MetI.pop {h : House} {x : Nat} {ms ws : List Nat} {y : Nat} (I : MetI h x ms (ws ++ [y]) none) : MetI h x ms ws (some (y, 0)) := by
  refine ⟨I.nd, I.st, I.rc, fun m hm => I.sub m (List.mem_append.mpr (.inl hm)), fun m hm => ?_, fun m i e => ?_⟩
  · rcases I.cl m hm with h1 | ⟨i, h1⟩ | h1
    · rcases List.mem_append.mp h1 with h1 | h1
      · exact .inl h1
      · rw [List.mem_singleton] at h1
        subst h1
        exact .inr (.inl ⟨0, rfl⟩)
    · cases h1
    · exact .inr (.inr h1)
  · cases e
    exact ⟨I.sub y (by simp), fun z hz => by simp at hz⟩
theorem MetI.skip {h : House} {x : Nat} {ms ws : List Nat} {y i : Nat} {v : Way} (I : MetI h x ms ws (some (y, i))) (hv : (row h y)[i]? = some v) (hk : ∀ z, v = .h z → z ∈ ms) : MetI h x ms ws (some (y, i + 1)) := by
  refine ⟨I.nd, I.st, I.rc, I.sub, fun m hm => ?_, fun m j e => ?_⟩
  · rcases I.cl m hm with h1 | ⟨j, h1⟩ | h1
    · exact .inl h1
    · cases h1
      exact .inr (.inl ⟨_, rfl⟩)
    · exact .inr (.inr h1)
  · cases e
    obtain ⟨h1, h2⟩ := I.part y i rfl
    refine ⟨h1, fun z hz => ?_⟩
    rw [take_succ hv] at hz
    rcases List.mem_append.mp hz with hz | hz
    · exact h2 z hz
    · rw [List.mem_singleton] at hz
      exact hk z hz.symm
theorem MetI.add {h : House} {x : Nat} {ms ws : List Nat} {y i z : Nat} (I : MetI h x ms ws (some (y, i))) (hv : (row h y)[i]? = some (.h z)) (hz : z ∉ ms) : MetI h x (ms ++ [z]) (ws ++ [z]) (some (y, i + 1)) := by
  obtain ⟨py, pp⟩ := I.part y i rfl
  refine ⟨?_, List.mem_append.mpr (.inl I.st), fun m hm => ?_, fun m hm => ?_, fun m hm => ?_, fun m j e => ?_⟩
  · refine List.nodup_append.mpr ⟨I.nd, by simp, fun a ha b hb => ?_⟩
    rw [List.mem_singleton] at hb
    subst hb
    intro e
    subst e
    exact hz ha
  · rcases List.mem_append.mp hm with hm | hm
    · exact I.rc m hm
    · rw [List.mem_singleton] at hm
      subst hm
      exact (I.rc y py).step (List.mem_of_getElem? hv)
  · rcases List.mem_append.mp hm with hm | hm
    · exact List.mem_append.mpr (.inl (I.sub m hm))
    · exact List.mem_append.mpr (.inr hm)
  · rcases List.mem_append.mp hm with hm | hm
    · rcases I.cl m hm with h1 | ⟨j, h1⟩ | h1
      · exact .inl (List.mem_append.mpr (.inl h1))
      · cases h1
        exact .inr (.inl ⟨_, rfl⟩)
      · exact .inr (.inr fun z hz => List.mem_append.mpr (.inl (h1 z hz)))
    · exact .inl (List.mem_append.mpr (.inr hm))
  · cases e
    refine ⟨List.mem_append.mpr (.inl py), fun u hu => ?_⟩
    rw [take_succ hv] at hu
    rcases List.mem_append.mp hu with hu | hu
    · exact List.mem_append.mpr (.inl (pp u hu))
    · rw [List.mem_singleton] at hu
      cases hu
      exact List.mem_append.mpr (.inr (by simp))
theorem MetI.done {h : House} {x : Nat} {ms ws : List Nat} {y i : Nat} (I : MetI h x ms ws (some (y, i))) (hi : (row h y).length ≤ i) : MetI h x ms ws none := by
  refine ⟨I.nd, I.st, I.rc, I.sub, fun m hm => ?_, fun m j e => by cases e⟩
  rcases I.cl m hm with h1 | ⟨j, h1⟩ | h1
  · exact .inl h1
  · cases h1
    obtain ⟨_, pp⟩ := I.part y i rfl
    rw [List.take_of_length_le hi] at pp
    exact .inr (.inr pp)
  · exact .inr (.inr h1)
theorem MetI.fin {h : House} {x : Nat} {ms : List Nat} (I : MetI h x ms [] none) : ∀ y, Rch h x y → y ∈ ms := by
  intro y r
  induction r with
  | refl => exact I.st
  | step _ m ih =>
    rcases I.cl _ ih with h1 | ⟨i, h1⟩ | h1
    · cases h1
    · cases h1
    · exact h1 _ m
def kvM (ms : List Nat) : List (Key × V) := ms.map fun (m : Nat) => ((Sum.inl (m : Int) : Key), V.bl true)
theorem kvM_val (ms : List Nat) (z : Nat) : (valV (kvM ms) (Sum.inl (z : Int))).isSome = decide (z ∈ ms) := by
  induction ms with
  | nil => simp [kvM, valV]
  | cons m ms ih =>
    unfold kvM
    rw [List.map_cons]
    by_cases e : m = z
    · subst e
      rw [valV_pos rfl]
      simp
    · rw [valV_neg (by intro q; cases q; exact e (by omega))]
      show (valV (kvM ms) _).isSome = _
      rw [ih]
      have : (z ∈ m :: ms) ↔ z ∈ ms := by
        rw [List.mem_cons]
        exact ⟨fun h => h.resolve_left fun q => e q.symm, .inr⟩
      exact decide_eq_decide.mpr this.symm
theorem kvM_put {ms : List Nat} {z : Nat} (hz : z ∉ ms) : putK (kvM ms) (Sum.inl (z : Int)) (.bl true) = kvM (ms ++ [z]) := by
  have h1 : valV (kvM ms) (Sum.inl (z : Int)) = none := by
    have := kvM_val ms z
    rw [decide_eq_false hz] at this
    exact Option.isSome_eq_false_iff.mp this |> Option.isNone_iff_eq_none.mp
  rw [putK_new _ h1]
  unfold kvM
  rw [List.map_append]
  rfl
section
variable {P : Program} {w : World} {K : PySem.W.Frag} {mg : Str → Option Value} {base : Heap} {f : Addr} {fd : FuncData}
theorem dq_nats {K : PySem.W.Frag} {H : Hp} (f : Nat → V) (ns : List Nat) (hf : ∀ n, f n = .int (n : Int) := by intro _; rfl) : DqAll K H (ns.map f) (ns.map dN) := by
  induction ns with
  | nil => exact .nil
  | cons n ns ih => exact .cons (by rw [hf n]; exact .int _) ih
/-- the slots while halls are waiting -/
def JM (h : House) (x : Nat) (d p : Addr) (ρ : List Sl) : Prop := ∃ (ms ws : List Nat) (s4 : Sl), ρ = [.im (dH h), .im (dN x), .ob d (.dK (kvM ms)), .ml p (ws.map dN), s4] ∧ MetI h x ms ws none ∧ 2 * (h.length - ms.length) + ws.length ≤ 2 * h.length
def muM (h : House) : List Sl → Nat
  | [_, _, .ob _ (.dK kvs), .ml _ ds, _] => 2 * (h.length - kvs.length) + ds.length
  | _ => 0
def r_met_from (ds : List PyData) (z : List PyData) : Prop := ∃ (h : House) (x : Nat), GoodH h ∧ x < h.length ∧ ds = [dH h, dN x] ∧ z = (reachL h x).map dN
theorem sc_met_from : FnScope ["house", "hall", "met", "waiting", "way"] ["house", "hall"] (defScope s_met_from) := ⟨rfl, rfl, rfl, by decide +kernel, rfl, by decide +kernel, by decide +kernel⟩
theorem fd_met_from (L : Lnk K mg "met_from" s_met_from ["house", "hall"]) (T : Bts mg) : FnD P w K mg base 1 "met_from" (spL K 2 r_met_from) := L.fnD fun f fd F => by
  refine Fun.okL F sc_met_from rfl (by decide) fun cdv A outer s H Q E ds z σ hr rel hl q A0 => ?_
  obtain ⟨h, x, g, hx, rfl, rfl⟩ := rel
  have hu := hu_of hr
  -- met, waiting = ({hall: True}, [hall])
  refine go_cons (ps_par (i := 2) (j := 3) rfl sc_met_from.nd rfl rfl (by decide) rfl rfl (pa_cons (pe_disp (pps_cons (pe_var (i := 1) rfl (.inl rfl)) pe_bl pps_nil) rfl rfl (by simp) (by decide)) (pa_cons pe_any pa_nil)) (by rfl)) ?_
  intro d hd
  obtain ⟨v1, hv1, dv1⟩ := A0.dat (i := 1) rfl
  cases dv1
  refine ⟨_, hv1, ?_⟩
  refine ⟨upd_same, [(Sum.inl (x : Int), .bl true)], rfl, by simp, ?_⟩
  rw [upd_upd]
  have A1 : At K H (upd H d (.dK (kvM [x]))) σ _ [(.ref d, .ob d (.dK (kvM [x])))] := A0.addN (x := .ob d (.dK (kvM [x]))) hd (same_new hd) rfl ⟨rfl, hd, rfl, upd_same⟩
  refine EVL.use (ds := [dN x]) (el_lst (es_cons (ev_var (i := 1) rfl (.inl rfl) rfl) es_nil) (by simp)) A1.envD fun p vs H1 e0 e1 e2 dv => ?_
  refine ⟨_, _, rfl, ?_⟩
  have A2 := (A1.addN (x := .ml p [dN x]) e0 e1 rfl ⟨rfl, A1.same.free e0, rfl, vs, e2, dv⟩)
  have A3 := (At.take A2 3)
  have A4 := (At.take A3 2)
  rw [List.set_comm _ _ (by decide)] at A4
  refine go_while (Jv := JM h x d p) (muM h) A4 PassesOwn.never ⟨[x], [x], .no, rfl, MetI.start h x, by simp; omega⟩ ?_
  rintro ρ' σ' H' ⟨ms, ws, s4, rfl, I, hmz⟩ A'
  have hml : ms.length ≤ h.length := nodup_le I.nd fun m hm => (I.rc m hm).lt g hx
  refine ⟨_, et_cmp (ev_var (i := 3) rfl (.inl rfl) rfl) (EVL.ev (el_lst es_nil (by decide))) (oc_ne hr (sh_mapL (f := dN) (fun _ => sh_int _) ws) (by decide)) (nomark _), fun hb H2 A2 => ?_, fun hb H2 A2 => ?_⟩
  · -- for way in house[waiting.pop()]
    obtain ⟨ws, y, rfl⟩ : ∃ ws' y, ws = ws' ++ [y] := by
      rcases List.eq_nil_or_concat ws with e | ⟨l, b, e⟩
      · subst e
        rw [show PyData.list [] = .list (([] : List Nat).map dN) from rfl, eqv_mapL eqv_nat] at hb
        simp at hb
      · exact ⟨l, b, by simpa using e⟩
    have hy : y < h.length := (I.rc y (I.sub y (by simp))).lt g hx
    have hrow : h[y]? = some (row h y) := row_some hy
    refine go_forX (γ := []) (B := H) (ds := (row h y).map dW) (ρ1 := [.im (dH h), .im (dN x), .ob d (.dK (kvM ms)), .ml p (ws.map dN), s4]) (u := fun d ρ => ρ.set 4 (.im d))
      (Iv := fun i ρ => ∃ (ms' ws' : List Nat) (s4 : Sl), ρ = [.im (dH h), .im (dN x), .ob d (.dK (kvM ms')), .ml p (ws'.map dN), s4] ∧ MetI h x ms' ws' (some (y, i)) ∧ ms'.length ≤ h.length ∧ 2 * (h.length - ms'.length) + ws'.length ≤ 2 * (h.length - ms.length) + ws.length)
      (pe_ix ix_tup (pe_var (i := 0) rfl (.inl rfl)) (pe_bm0 PySem.F.plainAttrs_list PySem.F.slot_list_pop PySem.F.type_list_pop mt_pop (pe_var (i := 3) rfl (.inl rfl))) (by intro _ _; rfl)) ?_ PassesOwn.never rfl (noLs_map noL_W _) (pg_name (i := 4) sc_met_from.nd rfl (.inl rfl)) (fun d _ => ra_name 4 d) ⟨ms, ws, s4, rfl, I.pop, hml, Nat.le_refl _⟩ ?_ ?_
    · intro Q q
      obtain ⟨v0, s0, d0⟩ := A2.dat (i := 0) rfl
      obtain ⟨s3, ⟨vs, h3, dvs⟩, b3, n3⟩ := A2.lst (i := 3) rfl
      obtain ⟨vs, v9, rfl, dws, d9⟩ := dq_last (ds := ws.map dN) (d := dN y) (by simpa using dvs)
      cases d9
      refine ⟨v0, s0, _, s3, .inl ⟨rfl, _, .of h3⟩, p, _, V.int y, rfl, rfl, h3, by simp, ?_⟩
      rw [List.dropLast_concat]
      have A3 := A2.mut (i := 3) rfl dws (noLs_map (f := dN) (fun _ => rfl) ws)
      obtain ⟨v0', s0', d0'⟩ := A3.dat (i := 0) rfl
      rw [s0] at s0'
      cases s0'
      cases d0' with
      | tup hs ha =>
        obtain ⟨w9, h8, h9⟩ := atI_dq ha (atI_map (f := dR) hrow)
        exact ⟨_, _, _, w9, rfl, rfl, hs, h8, q _ _ A3 h9⟩
    · rintro γ' i dd ρ1 σ1 H1 hd ⟨ms', ws', s5, rfl, J, hm2, hmu⟩ A1
      obtain ⟨wy, hwy, rfl⟩ : ∃ wy, (row h y)[i]? = some wy ∧ dW wy = dd := by
        rw [List.getElem?_map] at hd
        exact Option.map_eq_some_iff.mp hd
      refine go_ifX (ρ1 := [.im (dH h), .im (dN x), .ob d (.dK (kvM ms')), .ml p (ws'.map dN), .im (dW wy)]) (γ := γ') (B := H) (R := fun b => b = true ↔ ∃ z, wy = .h z ∧ z ∉ ms')
        (PW.pt (pw_and (pt_not pt_any) (pw_and1 (pt_cmp (pc_dnotin hu (pe_var (i := 4) rfl (.inl rfl)) (pe_var (i := 2) rfl (.inl rfl))))))) ?_ ?_ ?_
      · intro Q q
        refine EVT.use (X := CxF P w K mg base _ _ s_met_from f cdv A outer s H E) (et_val (ev_isStr (ev_var (i := 4) rfl (.inl rfl) rfl) rfl T.isinstance rfl T.str)) A1.envD fun H3 e3 => ?_
        have A3 := A1.to e3
        cases wy with
        | x c =>
          refine iteF ?_
          exact q _ _ A3 (by simp)
        | h z =>
          refine iteT ?_
          obtain ⟨v4, s4', d4⟩ := A3.dat (i := 4) rfl
          cases d4
          obtain ⟨s2, h2, _⟩ := A3.obj (i := 2) rfl
          refine ⟨_, s4', _, s2, d, _, rfl, DGet.k (k := Sum.inl (z : Int)) h2, _, rfl, q _ _ A3 ?_⟩
          rw [kvM_val]
          simp
      · intro R H3 A3
        obtain ⟨z, rfl, hz⟩ := R.mp rfl
        refine go_cons (ps_dput hu (pe_var (i := 2) rfl (.inl rfl)) (pe_var (i := 4) rfl (.inl rfl)) pe_bl (by rfl)) ?_
        obtain ⟨v4, s4', d4⟩ := A3.dat (i := 4) rfl
        cases d4
        obtain ⟨s2, h2, _⟩ := A3.obj (i := 2) rfl
        refine ⟨_, s2, _, s4', d, _, rfl, DPut.k (k := Sum.inl (z : Int)) h2 ?_, ?_⟩
        · simp [kvM]
          exact Nat.lt_of_le_of_lt hm2 (Nat.lt_of_le_of_lt g.four (by decide))
        · rw [kvM_put hz]
          have A4 := A3.mutO (i := 2) (o' := .dK (kvM (ms' ++ [z]))) rfl rfl
          have J2 := J.add hwy hz
          have hml2 : (ms' ++ [z]).length ≤ h.length := nodup_le J2.nd fun m hm => (J2.rc m hm).lt g hx
          refine go_append A4 3 rfl rfl (.inl rfl) (ev_var (i := 4) rfl (.inl rfl) rfl) rfl ?_ fun H5 A5 => ?_
          · simp at hmz ⊢
            have := g.four
            omega
          · refine go_nil (go_nil ⟨_, ⟨ms' ++ [z], ws' ++ [z], .im (dW (.h z)), ?_, J2, hml2, ?_⟩, A5⟩)
            · simp [dW]
            · simp at hml2 ⊢
              omega
      · intro R H3 A3
        refine go_nil (go_nil ⟨_, ⟨ms', ws', _, rfl, J.skip hwy fun z e => ?_, hm2, hmu⟩, A3⟩)
        apply Classical.byContradiction
        intro hz
        exact absurd (R.mpr ⟨z, e, hz⟩) (by simp)
    · rintro ρ1 σ1 H1 ⟨ms', ws', s5, rfl, J, hm2, hmu⟩ A1
      refine go_nil ⟨_, ⟨⟨ms', ws', s5, rfl, J.done (by simp), by simp at hmz; omega⟩, ?_⟩, A1⟩
      simp [muM, kvM]
      omega
  · -- return sorted(met)
    have : ws = [] := by
      rw [show PyData.list [] = .list (([] : List Nat).map dN) from rfl, eqv_mapL eqv_nat] at hb
      simpa using hb
    subst this
    obtain ⟨s2, h2, b2⟩ := A2.obj (i := 2) rfl
    refine go_cons (ps_ret (pe_callB (call_sortedDI rfl) rfl T.sorted (by decide +kernel) (pa_cons (pe_var (i := 2) rfl (.inl rfl)) pa_nil))) ?_
    refine ⟨_, s2, d, kvM ms, ms.map fun (m : Nat) => (m : Int), rfl, .inl h2, by simp [kvM], by simp; have := g.four; omega, fun ys p' py ps hp' => ?_⟩
    have e : ys = (reachL h x).map fun (m : Nat) => (m : Int) := by
      have nz : (reachL h x).Nodup := (reachL_pw h x).imp fun h => by omega
      have p2 : ys.Perm ((reachL h x).map fun (m : Nat) => (m : Int)) := py.trans ((perm_of_mem I.nd nz fun k => ⟨fun hk => mem_reachL.mpr ⟨(I.rc k hk).lt g hx, I.rc k hk⟩, fun hk => I.fin k (mem_reachL.mp hk).2⟩).map _)
      refine PySem.W.ksm_same p2 ps ?_
      rw [List.pairwise_map]
      exact (reachL_pw h x).imp fun h => by omega
    subst e
    have hp0 : H p' = none := A2.same.free hp'
    exact q _ _ ⟨p', _, rfl, hp0, A2.same.trans (same_new hp'), upd_same, by rw [List.map_map]; exact dq_nats _ _⟩
end
end TK

namespace TK
open PySem L2 TH PyProof.Rows
section
variable {P : Program} {w : World} {K : PySem.W.Frag} {mg : Str → Option Value} {base : Heap} {f : Addr} {fd : FuncData}
/-! ### reached, has_exit, is_safe, safe_halls -/
def r_reached (ds : List PyData) (z : PyData) : Prop := ∃ (h : House) (x : Nat), GoodH h ∧ x < h.length ∧ ds = [dH h, dN x] ∧ z = .tuple ((reachL h x).map dN)
theorem sc_reached : FnScope ["house", "hall"] ["house", "hall"] (defScope s_reached) := ⟨rfl, rfl, rfl, by decide +kernel, rfl, by decide +kernel, by decide +kernel⟩
theorem fd_reached (L : Lnk K mg "reached" s_reached ["house", "hall"]) (T : Bts mg) (F1 : FnD P w K mg base 4 "check_house" (spR K 1 r_check_house)) (F2 : FnD P w K mg base 2 "check_hall" (spR K 2 r_check_hall)) (F3 : FnD P w K mg base 1 "met_from" (spL K 2 r_met_from)) : FnD P w K mg base 5 "reached" (spR K 2 r_reached) := L.fnD fun f fd F => by
  refine Fun.okD F sc_reached rfl (by decide) fun cdv A outer s H Q E ds z σ hr rel hl q A0 => ?_
  obtain ⟨h, x, g, hx, rfl, rfl⟩ := rel
  refine go_expr A0 (ev_call F1 (hr.mono (by decide)) rfl (es_cons (ev_var (i := 0) rfl (.inl rfl) rfl) es_nil) rfl ⟨h, g, rfl, rfl⟩) fun H1 A1 => ?_
  refine go_expr A1 (ev_call F2 (hr.mono (by decide)) rfl (es_cons (ev_var (i := 0) rfl (.inl rfl) rfl) (es_cons (ev_var (i := 1) rfl (.inl rfl) rfl) es_nil)) rfl ⟨h, x, g, hx, rfl, rfl⟩) fun H2 A2 => ?_
  exact go_ret A2 (ev_callTy ca_tupleL rfl T.tuple (by decide +kernel) (es_cons (EVL.ev (el_call F3 (hr.mono (by decide)) rfl (es_cons (ev_var (i := 0) rfl (.inl rfl) rfl) (es_cons (ev_var (i := 1) rfl (.inl rfl) rfl) es_nil)) rfl ⟨h, x, g, hx, rfl, rfl⟩)) es_nil)) q
def r_has_exit (ds : List PyData) (z : PyData) : Prop := ∃ (h : House) (x : Nat), GoodH h ∧ x < h.length ∧ ds = [dH h, dN x] ∧ z = .bool (hasExB h x)
theorem sc_has_exit : FnScope ["house", "hall", "other", "way"] ["house", "hall"] (defScope s_has_exit) := ⟨rfl, rfl, rfl, by decide +kernel, rfl, by decide +kernel, by decide +kernel⟩
theorem rows2_bool {α β : Type} (ns : List α) (es : α → List β) (b : α → β → Bool) : rows2 ns es (fun _ _ => true) (fun a c => .bool (b a c)) = (ns.flatMap fun a => (es a).map (b a)).map PyData.bool := by
  unfold rows2
  rw [List.map_flatMap]
  congr 1
  funext a
  rw [List.filter_eq_self.mpr (fun _ _ => rfl), List.map_map]
  rfl
theorem hasEx_eq (h : House) (x : Nat) (g : GoodH h) (hx : x < h.length) : (((reachL h x).flatMap fun y => (row h y).map isX).any fun q => q) = hasExB h x := by
  rw [Bool.eq_iff_iff, hasExB_iff, List.any_eq_true]
  constructor
  · rintro ⟨b, hb, hq⟩
    obtain ⟨y, hy, hb⟩ := List.mem_flatMap.mp hb
    obtain ⟨v, hv, rfl⟩ := List.mem_map.mp hb
    cases v with
    | h n => cases hq
    | x c => exact ⟨y, (mem_reachL.mp hy).2, c, hv⟩
  · rintro ⟨y, r, c, hc⟩
    exact ⟨true, List.mem_flatMap.mpr ⟨y, mem_reachL.mpr ⟨r.lt g hx, r⟩, List.mem_map.mpr ⟨_, hc, rfl⟩⟩, rfl⟩
theorem fd_has_exit (L : Lnk K mg "has_exit" s_has_exit ["house", "hall"]) (T : Bts mg) (F3 : FnD P w K mg base 1 "met_from" (spL K 2 r_met_from)) : FnD P w K mg base 2 "has_exit" (spR K 2 r_has_exit) := L.fnD fun f fd F => by
  refine Fun.okD F sc_has_exit rfl (by decide) fun cdv A outer s H Q E ds z σ hr rel hl q A0 => ?_
  obtain ⟨h, x, g, hx, rfl, rfl⟩ := rel
  refine go_ret A0 (EV.cast (ev_callB (ca_any rfl) rfl T.any (by decide +kernel) (es_cons (EVL.ev (EVL.cast (el_lc2T (n := 4) (m := 3) (ns := reachL h x) (enc := dN) (dec := natOf) (enc1 := dW) (dec1 := wayOf) (es := fun y => row h y) (pt1 := fun _ v => true) (f2 := fun _ v => .bool (isX v)) (rb := [some (dH h), some (dN x), none, none]) (u := fun d r => r.set 2 (some d)) (u1 := fun d r => r.set 3 (some d)) (own := [("other", 2), ("way", 3)]) (vs1 := [3]) (sl := [2]) (sl1 := [3]) (fun _ _ => natOf_d _) (fun _ _ _ _ => wayOf_d _) rfl sc_has_exit.nd (it_list (EVL.ev (el_call F3 (hr.mono (by decide)) rfl (es_cons (ev_var (i := 0) rfl (.inr (.inl rfl)) rfl) (es_cons (ev_var (i := 1) rfl (.inl rfl) rfl) es_nil)) rfl ⟨h, x, g, hx, rfl, rfl⟩))) (blkOk_by (N := ["house", "hall", "other", "way"]) (sc := defScope s_has_exit) (by decide +kernel)) (by decide) (fun _ _ _ _ _ => (pg_name (i := 2) sc_has_exit.nd rfl (.inl rfl))) (fun _ _ _ _ _ => (pg_name (i := 3) sc_has_exit.nd rfl (.inl rfl)))
    (Sub.refl _) (fun d _ => rg_name 2 _) (by decide) (fun d _ e _ => rg_name 3 _) (by decide) ?_ (fun y hy _ _ _ _ _ => (it_tup (ev_ix (ev_var (i := 0) rfl (.inr (.inl rfl)) rfl) (ev_var (i := 2) rfl (.inl rfl) rfl) (ix_T (atI_map (f := dR) (row_some (mem_reachL.mp hy).1)))) (noLs_map noL_W _))) (fun d hd e he _ _ _ _ _ => ets_nil) (fun d hd e he hq _ _ _ _ _ => EV.cast (ev_isStr (ev_var (i := 3) rfl (.inl rfl) rfl) rfl T.isinstance rfl T.str) (by rw [isStr_dW])) (fun _ _ v _ _ => rfl) (fun y hy => (g.rows _ (row_mem (mem_reachL.mp hy).1)).2) (Nat.le_trans (reachL_len h x) g.four) (by decide) (by decide)) (rows2_bool _ _ _))) es_nil)) (by rw [hasEx_eq h x g hx])) q
  intro y hy
  show (noL (dH h) && (noL (dN x) && (true && (true && true)))) = true
  rw [noL_H]
  rfl
def r_is_safe (ds : List PyData) (z : PyData) : Prop := ∃ (h : House) (x : Nat), GoodH h ∧ x < h.length ∧ ds = [dH h, dN x] ∧ z = .bool (safeB h x)
theorem sc_is_safe : FnScope ["house", "hall", "other"] ["house", "hall"] (defScope s_is_safe) := ⟨rfl, rfl, rfl, by decide +kernel, rfl, by decide +kernel, by decide +kernel⟩
theorem safe_eq (h : House) (x : Nat) (g : GoodH h) (hx : x < h.length) : (((reachL h x).map fun y => hasExB h y).all fun q => q) = safeB h x := by
  rw [Bool.eq_iff_iff, safeB_iff, List.all_eq_true]
  constructor
  · intro q y r
    exact hasExB_iff.mp (q _ (List.mem_map.mpr ⟨y, mem_reachL.mpr ⟨r.lt g hx, r⟩, rfl⟩))
  · intro q b hb
    obtain ⟨y, hy, rfl⟩ := List.mem_map.mp hb
    exact hasExB_iff.mpr (q y (mem_reachL.mp hy).2)
theorem fd_is_safe (L : Lnk K mg "is_safe" s_is_safe ["house", "hall"]) (T : Bts mg) (F3 : FnD P w K mg base 1 "met_from" (spL K 2 r_met_from)) (F4 : FnD P w K mg base 2 "has_exit" (spR K 2 r_has_exit)) : FnD P w K mg base 3 "is_safe" (spR K 2 r_is_safe) := L.fnD fun f fd F => by
  refine Fun.okD F sc_is_safe rfl (by decide) fun cdv A outer s H Q E ds z σ hr rel hl q A0 => ?_
  obtain ⟨h, x, g, hx, rfl, rfl⟩ := rel
  exact go_ret A0 (EV.cast (ev_callB (ca_all rfl) rfl T.all (by decide +kernel) (es_cons (EVL.ev (EVL.cast (el_mapT (ns := reachL h x) (enc := dN) (dec := natOf) (own := [("other", 2)]) (u := fun d r => r.set 2 (some d)) (sl := [2]) (f := fun y => .bool (hasExB h y)) (fun _ _ => natOf_d _) rfl sc_is_safe.nd (it_list (EVL.ev (el_call F3 (hr.mono (by decide)) rfl (es_cons (ev_var (i := 0) rfl (.inr (.inl rfl)) rfl) (es_cons (ev_var (i := 1) rfl (.inl rfl) rfl) es_nil)) rfl ⟨h, x, g, hx, rfl, rfl⟩))) (blkOk_by (N := ["house", "hall", "other"]) (sc := defScope s_is_safe) (by decide +kernel)) (fun _ _ _ _ _ => (pg_name (i := 2) sc_is_safe.nd rfl (.inl rfl))) (fun d _ => rg_name 2 _) (by decide) (fun d hd _ _ _ _ _ => (ev_call F4 (hr.mono (by decide)) rfl (es_cons (ev_var (i := 0) rfl (.inr (.inl rfl)) rfl) (es_cons (ev_var (i := 2) rfl (.inl rfl) rfl) es_nil)) rfl ⟨h, d, g, (mem_reachL.mp hd).1, rfl, rfl⟩)) (fun _ _ => rfl) (Nat.le_trans (reachL_len h x) (Nat.le_trans g.four (by decide)))) (List.map_map (f := fun y => hasExB h y) (g := PyData.bool)).symm)) es_nil)) (by rw [safe_eq h x g hx])) q
def r_safe_halls (ds : List PyData) (z : PyData) : Prop := ∃ (h : House), GoodH h ∧ ds = [dH h] ∧ z = .tuple ((safeL h).map dN)
theorem sc_safe_halls : FnScope ["house", "hall"] ["house"] (defScope s_safe_halls) := ⟨rfl, rfl, rfl, by decide +kernel, rfl, by decide +kernel, by decide +kernel⟩
theorem fd_safe_halls (L : Lnk K mg "safe_halls" s_safe_halls ["house"]) (T : Bts mg) (F1 : FnD P w K mg base 4 "check_house" (spR K 1 r_check_house)) (F5 : FnD P w K mg base 3 "is_safe" (spR K 2 r_is_safe)) : FnD P w K mg base 5 "safe_halls" (spR K 1 r_safe_halls) := L.fnD fun f fd F => by
  refine Fun.okD F sc_safe_halls rfl (by decide) fun cdv A outer s H Q E ds z σ hr rel hl q A0 => ?_
  obtain ⟨h, g, rfl, rfl⟩ := rel
  refine go_expr A0 (ev_call F1 (hr.mono (by decide)) rfl (es_cons (ev_var (i := 0) rfl (.inr (.inl rfl)) rfl) es_nil) rfl ⟨h, g, rfl, rfl⟩) fun H1 A1 => ?_
  exact go_ret A1 (ev_callTy ca_tupleL rfl T.tuple (by decide +kernel) (es_cons (EVL.ev (el_lcT (ns := List.range h.length) (enc := dN) (dec := natOf) (own := [("hall", 1)]) (u := fun d r => r.set 1 (some d)) (sl := [1]) (pt := safeB h) (f := dN) (fun _ _ => natOf_d _) rfl sc_safe_halls.nd (ITR.same (it_range (n := h.length) (es_cons (EV.cast (ev_callB ca_lenT rfl T.len (by decide +kernel) (es_cons (ev_var (i := 0) rfl (.inr (.inl rfl)) rfl) es_nil)) (by simp)) es_nil) (by have := g.four; omega) rfl T.range)) (blkOk_by (N := ["house", "hall"]) (sc := defScope s_safe_halls) (by decide +kernel)) (fun _ _ _ _ _ => (pg_name (i := 1) sc_safe_halls.nd rfl (.inl rfl))) (fun d _ => rg_name 1 _) (by decide) (fun d hd _ _ _ _ _ => ets_one (et_val (ev_call F5 (hr.mono (by decide)) rfl (es_cons (ev_var (i := 0) rfl (.inr (.inl rfl)) rfl) (es_cons (ev_var (i := 1) rfl (.inl rfl) rfl) es_nil)) rfl ⟨h, d, g, List.mem_range.mp hd, rfl, rfl⟩))) (fun d hd hp _ _ _ _ _ => (ev_var (i := 1) rfl (.inl rfl) rfl)) (fun _ _ _ => rfl) (by rw [List.length_range]; have := g.four; omega))) es_nil)) q
end
end TK

namespace TH
open PySem L2 PyProof.Rows
section
variable {X : Cx} {i n k c : Nat} {e : Expr} {ρ : List Sl} {B H : Hp} {σ : L2.St} {γ : List (V × Sl)} {t : Addr} {ds : List PyData} {d : PyData} {pos : Pos} {rest : List Stmt} {D : Ends}
theorem go_retT (A : At X.K B H σ ρ γ) (hi : ρ[i]? = some (.ml t ds)) (h : EV X e (ρ.map view) d) (q : ∀ v H' ws, Same B H' → H' t = some (.lst ws) → DqAll X.K H' ws ds → Dq X.K H' v d → D.rt v H') : GO X (.Return (some e) pos :: rest) D σ H :=
  go_cons (ps_ret pe_any) (h.use A.envD fun v H' e1 dv => by
    obtain ⟨_, ⟨ws, h1, h2⟩, _⟩ := (A.to e1).lst hi
    exact q v H' ws (A.same.trans e1) h1 h2 dv)
end
theorem ixN_lt {n j : Nat} (h : j < n) : ixN n (j : Int) = some j := by
  unfold ixN
  rw [if_pos (by omega), if_pos (by omega)]
  simp
theorem lg_le {a : Nat} (h : a ≤ 2 ^ 60) : -(2 ^ 64) < (a : Int) ∧ (a : Int) < 2 ^ 64 := by
  constructor <;> omega
end TH
namespace TK
open PySem L2 TH PyProof.Rows
section
variable {P : Program} {w : World} {K : PySem.W.Frag} {mg : Str → Option Value} {base : Heap} {f : Addr} {fd : FuncData}
/-! ### the town and draws -/
def sp_town (K : PySem.W.Frag) : Sp := fun vs H Q _ => ∃ (a : Addr) (ss : List Int), vs = [.ref a] ∧ ss.length ≤ 63 ∧ SqL K H a (ss.map V.int) ∧ ∀ v H', QL K H (.int 0 :: ss.map .int) v H' → Q v H'
theorem sc__law_town : FnScope ["script"] ["script"] (defScope s__law_town) := ⟨rfl, rfl, rfl, by decide +kernel, rfl, by decide +kernel, by decide +kernel⟩
theorem startS {H : Hp} {a : Addr} {ss : List Int} (n : Nat) (h : SqL K H a (ss.map V.int)) : At K H H (some (.ref a) :: List.replicate n none) (.sc a ss :: List.replicate n .no) [] := by
  refine ⟨Same.refl H, by simp, fun j x q => ?_, (fun g hg => nomatch hg), ?_⟩
  · cases j with
    | zero =>
      cases q
      exact .inr ⟨.ref a, rfl, rfl, h⟩
    | succ j =>
      have := List.mem_of_getElem? (by simpa using q : (List.replicate n Sl.no)[j]? = some x)
      exact .inl (List.eq_of_mem_replicate this)
  · have : (List.replicate n Sl.no).filterMap Sl.adr = [] := by
      rw [List.filterMap_eq_nil_iff]
      intro x hx
      rw [List.eq_of_mem_replicate hx]
      rfl
    rw [List.filterMap_cons_none rfl, this]
    exact List.nodup_nil
theorem fd__law_town (L : Lnk K mg "_law_town" s__law_town ["script"]) (T : Bts mg) : FnD P w K mg base 1 "_law_town" (sp_town K) := L.fnD fun f fd F => by
  refine Fun.okG F sc__law_town (fun vs H Q E ⟨_, _, h, _⟩ => by rw [h]; rfl) ?_
  rintro cdv A outer s H vs Q E hr ⟨a, ss, rfl, hs, hS, q⟩
  have A0 := startS 0 hS
  refine go_cons (ps_ret pe_any) (evlh_bin (X := CxF P w K mg base ["script"] "_law_town" s__law_town f cdv A outer s H E) (d := .list [.int 0]) (y := .list (ss.map .int)) (zs := .int 0 :: ss.map .int) (EV.h (EVL.ev (el_lst (es_cons ev_int es_nil) (by decide))) A0.envD) (fun H1 e1 => EVLH.h (evl_listS (A0.to e1) (i := 0) rfl rfl (.inl rfl) rfl T.list)) (ol_cat (by simp; omega)) _ q)
theorem evl_town {X : Cx} {σ : L2.St} {B H : Hp} {ρ : List Sl} {γ : List (V × Sl)} {p pn pos : Pos} {x : Str} {a : Addr} {ss : List Int} {i : Nat} (F : FnD X.prog X.w X.K X.mg X.base 1 "_law_town" (sp_town X.K)) (hr : Room 1 X.A) (hg : Gl X "_law_town") (A : At X.K B H σ ρ γ) (hi : ρ[i]? = some (.sc a ss)) (h63 : ss.length ≤ 63) (hN : X.N[i]? = some x) (hv : Vis X.env.scope x)
    (he : starEach [.Name x pn] X.env = (false, eval (.Name x pn) X.env) :: starEach [] X.env := by rfl) (hpl : (backTo pos (starEach [] X.env)).any (·.1) = false := by rfl) (hd : (x == ("__debug__" : Str)) = false := by decide) (hcd : (x == ("__classdict__" : Str)) = false := by decide) : EVLH X (.Call (.Name "_law_town" p) [.Name x pn] [] pos) σ H (.int 0 :: ss.map .int) := fun Q q => by
  obtain ⟨ff, fd, ps, g1, g2, g3, g4⟩ := F.ex
  obtain ⟨h1, h2⟩ := A.scr hi
  exact rd_of (pe_call g4 hr hg g1 g2 g3 .nil pass0 (pa_cons (pe_var hN hv hd hcd) pa_nil he) (by decide) he hpl) ⟨_, h1, a, ss, rfl, h63, h2, q⟩
def pr_draw (d : PyData) : Prop := ∃ m : Nat, 0 < m ∧ m < 1073741824 ∧ d = dN m
def r_draw (d z : PyData) : Prop := ∃ m k : Nat, d = dN m ∧ k < m ∧ z = dN k
theorem sc__law_draw : FnScope ["script", "town", "limit", "at", "left", "number"] ["script", "town", "limit"] (defScope s__law_draw) := ⟨rfl, rfl, rfl, by decide +kernel, rfl, by decide +kernel, by decide +kernel⟩
theorem r_mod {m : Nat} (hm : 0 < m) (i : Int) : r_draw (dN m) (.int (i % (m : Int))) := by
  have h1 := Int.emod_nonneg i (show (m : Int) ≠ 0 by omega)
  have h2 := Int.emod_lt_of_pos i (show (0 : Int) < (m : Int) by omega)
  exact ⟨m, (i % (m : Int)).toNat, rfl, by omega, by show _ = PyData.int _; rw [Int.toNat_of_nonneg h1]⟩
theorem fd__law_draw (L : Lnk K mg "_law_draw" s__law_draw ["script", "town", "limit"]) (T : Bts mg) : FnD P w K mg base 1 "_law_draw" (spT K 1 pr_draw r_draw) := L.fnD fun f fd F => by
  refine Fun.okG F sc__law_draw (fun vs H Q E ⟨_, _, _, _, _, _, _, _, _, h, _⟩ => by rw [h]; rfl) ?_
  rintro cdv A outer s H vs Q E hr ⟨n, c, sa, t, v, ss, d, ws, ds, rfl, hc, h63, hs, hsv, hv, ⟨m, hm0, hm1, rfl⟩, ht, hws, ⟨a, ns, ha, hns, rfl⟩, q⟩
  have A0 := At.startT (n := 6) (by decide) hsv ht hws (Tw.noL ⟨a, ns, ha, hns, rfl⟩) hv
  have ret : ∀ (v' : V) (H' : Hp) (ws' : List V) (b : Nat) (ns' : List Int) (z : Int), b ≤ c + 1 → ns'.length = n → Same (wo H t) H' → H' t = some (.lst ws') → DqAll K H' ws' (.int b :: ns'.map .int) → Dq K H' v' (.int (z % (m : Int))) → Q v' H' := fun v' H' ws' b ns' z h1 h2 h3 h4 h5 h6 => q v' H' ws' _ _ h3 h4 h5 ⟨b, ns', h1, h2, rfl⟩ h6 rfl (r_mod hm0 z)
  -- town[0] = town[0] + 1
  refine go_setIx A0 1 rfl rfl (.inl rfl) (ev_bin (ev_ix (ev_var (i := 1) rfl (.inl rfl) rfl) ev_int (ix_L (i := 0) (z := .int a) (atI_nat (j := 0) rfl))) ev_int od_add) rfl ev_int (k := 0) (j := 0) (ixN_lt (j := 0) (by simp)) fun H1 A1 => ?_
  replace A1 : At K (wo H t) H1 _ [.sc sa ss, .ml t (.int ((a + 1 : Nat) : Int) :: ns.map .int), .im (dN m), .no, .no, .no] [] := A1
  have ha1 : a + 1 ≤ 2 ^ 60 := by omega
  refine go_ifH A1 (eth_eqS hr A1 (i := 0) rfl rfl (.inl rfl) (fun H2 e2 => EV.h (EVL.ev (el_lst es_nil (by decide))) (A1.to e2).envD) (nomark _)) (fun hb H2 A2 => ?_) (fun hb H2 A2 => ?_)
  · exact go_retT A2 (i := 1) rfl (ev_bin (ev_bin (ev_bin (ev_bin (ev_ix (ev_var (i := 1) rfl (.inl rfl) rfl) ev_int (ix_L (i := 0) (atI_nat (j := 0) rfl))) (ev_ix (ev_var (i := 1) rfl (.inl rfl) rfl) ev_int (ix_L (i := 0) (atI_nat (j := 0) rfl))) (od_mul (.inl (lg_le ha1)))) ev_int (od_mul (.inr (by decide)))) ev_int (od_fdiv ⟨by decide, by decide⟩)) (ev_var (i := 2) rfl (.inl rfl) rfl) (od_mod (by omega))) fun v' H' ws' h1 h2 h3 h4 => ret v' H' ws' _ ns _ (by omega) hns h1 h2 h3 h4
  refine go_nil ?_
  have hss : 0 < ss.length := List.length_pos_iff.mpr (by simpa using hb)
  -- at = town[0] % len(script)
  obtain ⟨at', hat, eat⟩ : ∃ at' : Nat, at' < ss.length ∧ ((a + 1 : Nat) : Int) % (ss.length : Int) = (at' : Int) := ⟨(a + 1) % ss.length, Nat.mod_lt _ hss, by omega⟩
  obtain ⟨lf, hlf⟩ : ∃ lf : Int, ns[at']? = some lf := ⟨_, List.getElem?_eq_getElem (by omega)⟩
  obtain ⟨sc, hsc⟩ : ∃ sc : Int, ss[at']? = some sc := ⟨_, List.getElem?_eq_getElem hat⟩
  refine go_setH A2 3 sc__law_draw.nd rfl (.inl rfl) (d := dN at') (EVH.cast (evh_bin (EV.h (ev_ix (ev_var (i := 1) rfl (.inl rfl) rfl) ev_int (ix_L (i := 0) (atI_nat (j := 0) rfl))) A2.envD) (fun H3 e3 => evh_lenS (A2.to e3) (i := 0) rfl rfl (.inl rfl) rfl T.len) (od_mod (by omega))) (by rw [eat])) rfl fun p3 H3 A3 => ?_
  -- left = town[1 + at]
  refine go_set A3 4 sc__law_draw.nd rfl (.inl rfl) (d := .int lf) (ev_ix (ev_var (i := 1) rfl (.inl rfl) rfl) (EV.cast (d' := dN (1 + at')) (ev_bin ev_int (ev_var (i := 3) rfl (.inl rfl) rfl) od_add) (by show PyData.int _ = PyData.int _; congr 1)) (ix_L (atI_nat (by rw [Nat.add_comm 1 at', List.getElem?_cons_succ, List.getElem?_map, hlf]; rfl)))) rfl fun p4 H4 A4 => ?_
  refine go_ifH A4 (eth_and (m := decide (0 < lf)) (eth_cmp (evh_ixS A4 (i := 0) rfl rfl (.inl rfl) (EV.h (ev_var (i := 3) rfl (.inl rfl) rfl) A4.envD) hsc) (fun H5 e5 => EV.h (ev_bin ev_int ev_int (od_pow ⟨by decide, by decide, by decide⟩)) (A4.to e5).envD) oc_ge (nomark _)) fun _ H5 e5 wh Q5 q5 pins s5 I5 => EVW.use (ew_and1 (et_cmp (ev_var (i := 4) rfl (.inl rfl) rfl) ev_int oc_gt (nomark _))) (A4.to e5).envD q5 wh pins s5 I5) (fun hb5 H5 A5 => ?_) (fun hb5 H5 A5 => ?_)
  · -- town[1 + at] = left // limit
    refine go_setIx A5 1 rfl rfl (.inl rfl) (ev_bin (ev_var (i := 4) rfl (.inl rfl) rfl) (ev_var (i := 2) rfl (.inl rfl) rfl) (od_fdiv ⟨by omega, by omega⟩)) rfl (k := ((1 + at' : Nat) : Int)) (j := 1 + at') (EV.cast (ev_bin ev_int (ev_var (i := 3) rfl (.inl rfl) rfl) od_add) (by show PyData.int _ = PyData.int _; congr 1)) (ixN_lt (by simp; omega)) fun H6 A6 => ?_
    refine go_retT A6 (i := 1) rfl (ev_bin (ev_var (i := 4) rfl (.inl rfl) rfl) (ev_var (i := 2) rfl (.inl rfl) rfl) (od_mod (by omega))) fun v' H' ws' h1 h2 h3 h4 => ret v' H' ws' (a + 1) (ns.set at' (lf / m)) _ (by omega) (by simp [hns]) h1 h2 ?_ h4
    have e : (PyData.int ((a + 1 : Nat) : Int) :: ns.map PyData.int).set (1 + at') (.int (lf / m)) = PyData.int ((a + 1 : Nat) : Int) :: (ns.set at' (lf / m)).map PyData.int := by
      rw [Nat.add_comm 1 at', List.set_cons_succ, List.map_set]
    rw [← e]
    exact h3
  refine go_nil ?_
  have hp : ∀ (x : Int) (b : Int), 0 < b → b < 4294967296 → (x % b).natAbs < 2 ^ 64 := fun x b h1 h2 => by
    have := Int.emod_nonneg x (show b ≠ 0 by omega)
    have := Int.emod_lt_of_pos x h1
    omega
  refine go_setH A5 5 sc__law_draw.nd rfl (.inl rfl) (evh_bin (evh_bin (evh_ixS A5 (i := 0) rfl rfl (.inl rfl) (EV.h (ev_var (i := 3) rfl (.inl rfl) rfl) A5.envD) hsc) (fun H6 e6 => EV.h (ev_bin ev_int (ev_ix (ev_var (i := 1) rfl (.inl rfl) rfl) ev_int (ix_L (i := 0) (atI_nat (j := 0) rfl))) (od_mul (.inl (by decide)))) (A5.to e6).envD) od_add) (fun H6 e6 => EV.h ev_int (A5.to e6).envD) (od_mod (by decide))) rfl fun p6 H6 A6 => ?_
  refine go_set A6 5 sc__law_draw.nd rfl (.inl rfl) (ev_bin (ev_bin (ev_var (i := 5) rfl (.inl rfl) rfl) ev_int (od_pow ⟨by decide, by decide, hp _ _ (by decide) (by decide)⟩)) ev_int (od_mod (by decide))) rfl fun p7 H7 A7 => ?_
  exact go_retT A7 (i := 1) rfl (ev_bin (ev_bin (ev_bin (ev_bin (ev_bin (ev_bin (ev_var (i := 5) rfl (.inl rfl) rfl) ev_int (od_fdiv ⟨by decide, by decide⟩)) ev_int (od_mul (.inr (by decide)))) (ev_var (i := 5) rfl (.inl rfl) rfl) od_add) ev_int (od_mod (by decide))) ev_int (od_fdiv ⟨by decide, by decide⟩)) (ev_var (i := 2) rfl (.inl rfl) rfl) (od_mod (by omega))) fun v' H' ws' h1 h2 h3 h4 => ret v' H' ws' (a + 1) ns _ (by omega) hns h1 h2 h3 h4
def pr_pick (d : PyData) : Prop := ∃ es : List PyData, d = .list es ∧ es ≠ [] ∧ es.length ≤ 100000 ∧ noLs es = true
def r_pick (d z : PyData) : Prop := ∃ es : List PyData, d = .list es ∧ z ∈ es
theorem sc__law_pick : FnScope ["script", "town", "choices"] ["script", "town", "choices"] (defScope s__law_pick) := ⟨rfl, rfl, rfl, by decide +kernel, rfl, by decide +kernel, by decide +kernel⟩
theorem fd__law_pick (L : Lnk K mg "_law_pick" s__law_pick ["script", "town", "choices"]) (T : Bts mg) (F1 : FnD P w K mg base 1 "_law_draw" (spT K 1 pr_draw r_draw)) : FnD P w K mg base 2 "_law_pick" (spT K 1 pr_pick r_pick) := L.fnD fun f fd F => by
  refine Fun.okG F sc__law_pick (fun vs H Q E ⟨_, _, _, _, _, _, _, _, _, h, _⟩ => by rw [h]; rfl) ?_
  rintro cdv A outer s H vs Q E hr ⟨n, c, sa, t, v, ss, d, ws, ds, rfl, hc, h63, hs, hsv, hv, ⟨es, rfl, he, hl, hn⟩, ht, hws, tw, q⟩
  have A0 := At.startT (n := 3) (by decide) hsv ht hws tw.noL hv
  refine go_retX (n := n) (i := 1) (ρ := [.sc sa ss, .no, .im (.list es)]) A0 tw hc (ex_ixV (R := fun z => z ∈ es) (j := 2) rfl rfl (.inl rfl) (ex_callT (j := 0) F1 (hr.mono (by decide)) rfl (Nat.lt.step (Nat.lt.base 1)) rfl hs h63 (by decide) rfl (.inl rfl) rfl (.inl rfl) (ea_ev (d := dN es.length) (ev_callB ca_lenL rfl T.len (by decide +kernel) (es_cons (ev_var (i := 2) rfl (.inl rfl) rfl) es_nil)) rfl (Nat.lt.step (Nat.lt.base 1))) (fun d hd => ⟨es.length, List.length_pos_iff.mpr he, by omega, hd⟩)) ?_) ?_
  · rintro z ⟨d, rfl, m, k, hm, hk, rfl⟩
    have : m = es.length := by
      have := PyData.int.inj hm
      omega
    subst this
    exact ⟨es[k], ix_L (atI_nat (List.getElem?_eq_getElem hk)), noLs_iff.mp hn _ (List.getElem_mem hk), List.getElem_mem hk⟩
  · rintro v' y ds' H' ⟨z, rfl, hz⟩ tw' A'
    obtain ⟨_, ⟨ws', h1, h2⟩, _⟩ := A'.townAt (Nat.lt.step (Nat.lt.base 1))
    exact q v' H' ws' ds' z A'.same h1 h2 tw' A'.g0 (noLs_iff.mp hn z hz) ⟨es, rfl, hz⟩
end
end TK

namespace TH
open PySem L2 PyProof.Rows
/-! ### the text of a way -/
def wC : Way → Nat
  | .h n => 48 + n
  | .x .A => 65
  | .x .B => 66
  | .x .C => 67
theorem wC_str {n : Nat} (h : n < 4) : (toString (n : Int) : Str) = SX.S [wC (.h n)] := by
  match n, h with
  | 0, _ => decide +kernel
  | 1, _ => decide +kernel
  | 2, _ => decide +kernel
  | 3, _ => decide +kernel
theorem wC_ex (c : Ex) : exS c = SX.S [wC (.x c)] := by cases c <;> decide +kernel
theorem joinL_nil : ∀ l : List (List Nat), TL.joinL [] l = l.flatten
  | [] => rfl
  | [x] => by simp [TL.joinL]
  | x :: y :: l => by
    show x ++ ([] ++ TL.joinL [] (y :: l)) = _
    rw [joinL_nil (y :: l), List.nil_append]
    rfl
theorem join_flat (l : List (List Nat)) : Txt.join (SX.S []) (l.map SX.S) = SX.S l.flatten := by rw [SX.join_S, joinL_nil]
theorem ca_strW {X : Cx} {v : Way} {m : Nat} (h : ∀ n, v = .h n → n < 4) : CaD X (.type "str") [dW v] (.str (SX.S [wC v])) := by
  cases v with
  | h n =>
    have h4 := h n rfl
    rw [← wC_str h4]
    refine ca_strI ?_
    match n, h4 with
    | 0, _ => decide
    | 1, _ => decide
    | 2, _ => decide
    | 3, _ => decide
  | x c =>
    rw [← wC_ex c]
    exact ca_strS
def lwOf : PyData → List Way
  | .list l => l.map wayOf
  | _ => []
abbrev dLw (ws : List Way) : PyData := .list (ws.map dW)
theorem lwOf_d (ws : List Way) : lwOf (dLw ws) = ws := map_dec wayOf_d ws
theorem sum_ones {α : Type} {f : α → Nat} : ∀ {l : List α} {m : Nat}, (∀ a ∈ l, f a ≤ m) → (l.map f).sum ≤ l.length * m
  | [], _, _ => by simp
  | a :: l, m, h => by
    have h1 := h a List.mem_cons_self
    have h2 := sum_ones (l := l) (m := m) fun b hb => h b (List.mem_cons_of_mem _ hb)
    rw [List.map_cons, List.sum_cons, List.length_cons, Nat.succ_mul]
    omega
theorem S_len (l : List Nat) : (SX.S l).length = l.length := rfl
end TH
namespace TK
open PySem L2 TH PyProof.Rows
section
variable {P : Program} {w : World} {K : PySem.W.Frag} {mg : Str → Option Value} {base : Heap} {f : Addr} {fd : FuncData}
abbrev Rws := List (Addr × List Way)
def RwOk (size : Nat) (rows : Rws) : Prop := ∀ r ∈ rows, 1 ≤ r.2.length ∧ r.2.length ≤ 3 ∧ ∀ n, Way.h n ∈ r.2 → n < size
abbrev gW (rows : Rws) : List (V × Sl) := gRows (rows.map fun r => (r.1, r.2.map dW))
abbrev refs (rows : Rws) : List V := rows.map fun r => .ref r.1
abbrev hsl (sa : Addr) (ss : List Int) (t : Addr) (ds : List PyData) (m size : Nat) (p : Addr) (rows : Rws) (s5 s6 s7 s8 : Sl) : List Sl := [.sc sa ss, .ml t ds, .im (dN m), .im (dN size), .ob p (.lst (refs rows)), s5, s6, s7, s8, .no]
theorem sc__law_house : FnScope ["script", "town", "halls", "size", "found", "k", "row", "way", "letters", "sign"] ["script", "town", "halls"] (defScope s__law_house) := ⟨rfl, rfl, rfl, by decide +kernel, rfl, by decide +kernel, by decide +kernel⟩
abbrev lets (rows : Rws) : List Nat := (rows.map fun r => r.2.map wC).flatten
theorem lets_len {size : Nat} {rows : Rws} (ok : RwOk size rows) (hl : rows.length ≤ 4) : (lets rows).length ≤ 12 := by
  rw [List.length_flatten, List.map_map]
  have := sum_ones (f := List.length ∘ fun r : Addr × List Way => r.2.map wC) (m := 3) (l := rows) fun r hr => by
    show (r.2.map wC).length ≤ 3
    rw [List.length_map]
    exact (ok r hr).2.1
  omega
/-- what letters is -/
theorem ev_letters (T : Bts mg) {cdv : Value} {A : Around} {outer : List Env} {s : Shared} {H : Hp} {E : XK} {e : Expr} {a0 a1 a2 a3 a5 a6 a7 a8 a9 : Option PyData} {rows : Rws} {size : Nat} (ok : RwOk size rows) (h4 : size ≤ 4) (hl : rows.length ≤ 4) {pos py : Pos} {rest : List Stmt}
    (he : (defBody s__law_house).drop 4 = .Assign [.Name "letters" py] e pos :: rest) : EV (CxF P w K mg base ["script", "town", "halls", "size", "found", "k", "row", "way", "letters", "sign"] "_law_house" s__law_house f cdv A outer s H E) e [a0, a1, a2, a3, some (.list (rows.map fun r => .list (r.2.map dW))), a5, a6, a7, a8, a9] (.str (SX.S (lets rows))) := by
  cases he
  refine EV.cast (ev_join (z := SX.S []) (ys := (rows.map fun r => r.2.map wC).map SX.S) ev_str ?_ ?_) (by rw [join_flat])
  · refine EVL.ev (EVL.cast (el_mapT (ns := rows.map (·.2)) (enc := dLw) (dec := lwOf) (own := [("row", 6)]) (u := fun d r => r.set 6 (some d)) (sl := [6]) (f := fun ws => .str (SX.S (ws.map wC))) (fun _ _ => lwOf_d _) rfl sc__law_house.nd (it_list (EV.cast (ev_var (i := 4) rfl (.inl rfl) rfl) (by rw [List.map_map]; rfl))) (blkOk_by (N := ["script", "town", "halls", "size", "found", "k", "row", "way", "letters", "sign"]) (sc := defScope s__law_house) (by decide +kernel)) (fun _ _ _ _ _ => (pg_name (i := 6) sc__law_house.nd rfl (.inl rfl))) (fun d _ => rg_name 6 _) (by decide) (fun ws hws _ _ _ _ _ => ?_) (fun _ _ => rfl) (by rw [List.length_map]; omega)) (by rw [List.map_map, List.map_map, List.map_map]; rfl))
    obtain ⟨r, hr, rfl⟩ := List.mem_map.mp hws
    obtain ⟨o1, o2, o3⟩ := ok r hr
    refine EV.cast (ev_join (z := SX.S []) (ys := (r.2.map fun v => [wC v]).map SX.S) ev_str (EVL.ev (EVL.cast (el_mapT (ns := r.2) (enc := dW) (dec := wayOf) (own := [("way", 7)]) (u := fun d r => r.set 7 (some d)) (sl := [7]) (f := fun v => .str (SX.S [wC v])) (fun _ _ => wayOf_d _) rfl sc__law_house.nd (it_list (ev_var (i := 6) rfl (.inl rfl) rfl)) (blkOk_by (N := ["script", "town", "halls", "size", "found", "k", "row", "way", "letters", "sign"]) (sc := { kind := .function, names := [(".0", .local), ("row", .local)], isGenerator := false, isCoroutine := false }) (by decide +kernel)) (fun _ _ _ _ _ => (pg_name (i := 7) sc__law_house.nd rfl (.inl rfl))) (fun d _ => rg_name 7 _) (by decide) (fun v hv _ _ _ _ _ => ev_callTy (ca_strW (m := 0) fun n e => Nat.lt_of_lt_of_le (o3 n (e ▸ hv)) h4) rfl T.str (by decide +kernel) (es_cons (ev_var (i := 7) rfl (.inl rfl) rfl) es_nil)) (fun _ _ => rfl) (by omega)) (by rw [List.map_map, List.map_map]; rfl))) ?_) ?_
    · have := sum_ones (f := (·.length)) (m := 1) (l := (r.2.map fun v => [wC v]).map SX.S) fun a ha => by
        obtain ⟨b, hb, rfl⟩ := List.mem_map.mp ha
        obtain ⟨v, _, rfl⟩ := List.mem_map.mp hb
        exact Nat.le_refl _
      rw [show (SX.S []).length = 0 from rfl, Nat.mul_zero, Nat.add_zero]
      refine Nat.le_trans this ?_
      rw [List.length_map, List.length_map]
      omega
    · rw [join_flat]
      congr 2
      induction r.2 with
      | nil => rfl
      | cons v l ih => rw [List.map_cons, List.flatten_cons, ih]; rfl
  · have := sum_ones (f := (·.length)) (m := 3) (l := (rows.map fun r => r.2.map wC).map SX.S) fun a ha => by
      obtain ⟨b, hb, rfl⟩ := List.mem_map.mp ha
      obtain ⟨r, hr, rfl⟩ := List.mem_map.mp hb
      rw [S_len, List.length_map]
      exact (ok r hr).2.1
    rw [show (SX.S []).length = 0 from rfl, Nat.mul_zero, Nat.add_zero]
    refine Nat.le_trans this ?_
    rw [List.length_map, List.length_map]
    omega
def isAbc (c : Nat) : Bool := decide (c = 65) || (decide (c = 66) || decide (c = 67))
abbrev dC (c : Nat) : PyData := .str (SX.S [c])
def cOf : PyData → Nat
  | .str z => z.cps.toList.headD 0
  | _ => 0
theorem abc_eq (c : Nat) : ([PyData.str "A", .str "B", .str "C"].any fun y => PyData.eqv y (dC c)) = isAbc c := by
  have h : ∀ (z : Str) (k : Nat), z = SX.S [k] → PyData.eqv (.str z) (dC c) = decide (c = k) := fun z k e => by
    subst e
    rw [eqv_str]
    by_cases q : c = k
    · subst q
      simp
    · rw [decide_eq_false q, decide_eq_false]
      intro e
      have := congrArg (fun z : Str => z.cps.toList) e
      simp [SX.S] at this
      exact q this.symm
  simp only [List.any_cons, List.any_nil, Bool.or_false]
  rw [h "A" 65 (by decide +kernel), h "B" 66 (by decide +kernel), h "C" 67 (by decide +kernel)]
  rfl
theorem strOk_low {c : Nat} (h : c < 128) : PyData.strOk (SX.S [c]) = true := by
  revert c
  decide +kernel
theorem ok_lets {size : Nat} {rows : Rws} (ok : RwOk size rows) (h4 : size ≤ 4) {c : Nat} (h : c ∈ lets rows) : PyData.strOk (SX.S [c]) = true := by
  obtain ⟨l, hl, hc⟩ := List.mem_flatten.mp h
  obtain ⟨r, hr, rfl⟩ := List.mem_map.mp hl
  obtain ⟨v, hv, rfl⟩ := List.mem_map.mp hc
  refine strOk_low ?_
  cases v with
  | h n =>
    have := (ok r hr).2.2 n hv
    show 48 + n < 128
    omega
  | x c => cases c <;> decide
theorem lets_ex {size : Nat} {rows : Rws} (ok : RwOk size rows) (h4 : size ≤ 4) (h : (lets rows).filter isAbc ≠ []) : ∃ r ∈ rows, ∃ c, Way.x c ∈ r.2 := by
  obtain ⟨c, hc⟩ := List.exists_mem_of_ne_nil _ h
  obtain ⟨hc, ha⟩ := List.mem_filter.mp hc
  obtain ⟨l, hl, hc⟩ := List.mem_flatten.mp hc
  obtain ⟨r, hr, rfl⟩ := List.mem_map.mp hl
  obtain ⟨v, hv, rfl⟩ := List.mem_map.mp hc
  refine ⟨r, hr, ?_⟩
  cases v with
  | h n =>
    have := (ok r hr).2.2 n hv
    have e : isAbc (wC (.h n)) = false := by
      show (decide (48 + n = 65) || (decide (48 + n = 66) || decide (48 + n = 67))) = false
      rw [decide_eq_false (by omega), decide_eq_false (by omega), decide_eq_false (by omega)]
      rfl
    rw [e] at ha
    cases ha
  | x c => exact ⟨c, hv⟩
theorem rows_dq {B H : Hp} {σ : L2.St} {ρ : List Sl} {rows : Rws} (A : At K B H σ ρ (gW rows)) : DqAll K H (refs rows) (rows.map fun r => dLw r.2) := by
  have := At.rows (γ := []) (by rw [List.append_nil]; exact A)
  rw [List.map_map, List.map_map] at this
  exact this
/-- the end of _law_house -/
theorem house_tail (T : Bts mg) {cdv : Value} {A : Around} {outer : List Env} {s : Shared} {H0 B H : Hp} {E : XK} {σ : L2.St} {D : Ends} {ss : List Int} {sa t p : Addr} {ds : List PyData} {m size : Nat} {rows : Rws} {s5 s6 s7 s8 : Sl} (hr : Room 2 (A.deeper (envOfC "_law_house" (defScope s__law_house) s.heap.objs.size f cdv)))
    (A0 : At K B H σ (hsl sa ss t ds m size p rows s5 s6 s7 s8) (gW rows)) (ok : RwOk size rows) (hl : rows.length = size) (h1 : 1 ≤ size) (h4 : size ≤ 4) (q : ∀ v H' ws h, GoodH h → h.length = size → Same B H' → H' t = some (.lst ws) → DqAll K H' ws ds → Dq K H' v (dH h) → D.rt v H') :
    GO (CxF P w K mg base ["script", "town", "halls", "size", "found", "k", "row", "way", "letters", "sign"] "_law_house" s__law_house f cdv A outer s H0 E) ((defBody s__law_house).drop 4) D σ H := by
  obtain ⟨o1, o2, o3⟩ := A0.obj (i := 4) rfl
  have E0 := A0.envD.put (j := 4) o1 (.lst o2 (rows_dq A0))
  refine go_cons (ps_set (i := 8) sc__law_house.nd rfl (.inl rfl) pe_any (by rfl)) (EV.use (ev_letters T ok h4 (by omega) rfl) E0 fun v H1 e1 dv => ?_)
  have A1 := (A0.to e1).setI 8 dv rfl
  have fin : ∀ (σ : L2.St) (H : Hp) (rows : Rws) (s5 s6 s7 s8 : Sl), At K B H σ (hsl sa ss t ds m size p rows s5 s6 s7 s8) (gW rows) → RwOk size rows → rows.length = size → (∃ r ∈ rows, ∃ c, Way.x c ∈ r.2) → GO (CxF P w K mg base ["script", "town", "halls", "size", "found", "k", "row", "way", "letters", "sign"] "_law_house" s__law_house f cdv A outer s H0 E) ((defBody s__law_house).drop 6) D σ H := by
    intro σ H rows s5 s6 s7 s8 A0 ok hl hex
    obtain ⟨o1, o2, o3⟩ := A0.obj (i := 4) rfl
    have E0 := A0.envD.put (j := 4) o1 (.lst o2 (rows_dq A0))
    refine go_retE (d := dH (rows.map Prod.snd)) E0 (EV.cast (ev_callTy ca_tupleL rfl T.tuple (by decide +kernel) (es_cons (EVL.ev (el_mapT (ns := rows.map (·.2)) (enc := dLw) (dec := lwOf) (own := [("row", 6)]) (u := fun d r => r.set 6 (some d)) (sl := [6]) (f := dR) (fun _ _ => lwOf_d _) rfl sc__law_house.nd (it_list (EV.cast (ev_var (i := 4) rfl (.inl rfl) rfl) (by rw [List.map_map]; rfl))) (blkOk_by (N := ["script", "town", "halls", "size", "found", "k", "row", "way", "letters", "sign"]) (sc := defScope s__law_house) (by decide +kernel)) (fun _ _ _ _ _ => (pg_name (i := 6) sc__law_house.nd rfl (.inl rfl))) (fun d _ => rg_name 6 _) (by decide) (fun ws hws _ _ _ _ _ => (ev_callTy ca_tupleL rfl T.tuple (by decide +kernel) (es_cons (ev_var (i := 6) rfl (.inl rfl) rfl) es_nil))) (fun _ _ => noL_R _) (by rw [List.length_map]; omega))) es_nil)) rfl) fun v H2 e2 dv => ?_
    obtain ⟨_, ⟨ws, t1, t2⟩, _, _⟩ := (A0.to e2).lst (i := 1) rfl
    refine q v H2 ws (rows.map Prod.snd) ⟨by simp; omega, by simp; omega, fun r hr => ?_, fun r hr n hn => ?_, ?_⟩ (by simp [hl]) (A0.same.trans e2) t1 t2 dv
    · obtain ⟨x, hx, rfl⟩ := List.mem_map.mp hr
      exact ⟨(ok x hx).1, (ok x hx).2.1⟩
    · obtain ⟨x, hx, rfl⟩ := List.mem_map.mp hr
      rw [List.length_map, hl]
      exact (ok x hx).2.2 n hn
    · obtain ⟨r, hr, c, hc⟩ := hex
      exact ⟨r.2, List.mem_map.mpr ⟨r, hr, rfl⟩, c, hc⟩
  refine go_if A1 (et_cmp (EVL.ev (el_lcT (ns := lets rows) (enc := dC) (dec := cOf) (own := [("sign", 9)]) (u := fun d r => r.set 9 (some d)) (sl := [9]) (pt := isAbc) (f := dC) (fun _ _ => by rfl) rfl sc__law_house.nd (ITR.same (it_str (z := SX.S (lets rows)) (ev_var (i := 8) rfl (.inl rfl) rfl))) (blkOk_by (N := ["script", "town", "halls", "size", "found", "k", "row", "way", "letters", "sign"]) (sc := defScope s__law_house) (by decide +kernel)) (fun _ _ _ _ _ => (pg_name (i := 9) sc__law_house.nd rfl (.inl rfl))) (fun d _ => rg_name 9 _) (by decide) (fun d hd _ _ _ _ _ => ets_one (EVT.cast (et_cmp (ev_var (i := 9) rfl (.inl rfl) rfl) (ev_tup (es_cons ev_str (es_cons ev_str (es_cons ev_str es_nil))) (by decide)) (oc_inT hr ?sh1 (by decide +kernel)) (by rfl)) (abc_eq d))) (fun d hd hp _ _ _ _ _ => (ev_var (i := 9) rfl (.inl rfl) rfl)) (fun _ _ _ => rfl) (Nat.le_trans (lets_len ok (by omega)) (by decide)))) (EVL.ev (el_lst es_nil (by decide))) (oc_eq hr ?sh2 (by decide)) (nomark _)) (fun hb H1 A1 => ?_) (fun hb H1 A1 => ?_)
  case sh1 => exact (sh_str (ok_lets ok h4 hd)).shaped (by decide)
  case sh2 => exact (sh_lst (n := 0) fun d hd => by
    obtain ⟨c, hc, rfl⟩ := List.mem_map.mp hd
    exact sh_str (ok_lets ok h4 (List.mem_filter.mp hc).1)).shaped (by decide)
  · -- found[0][0] = 'A'
    obtain ⟨r0, rest, rfl⟩ : ∃ r0 rest, rows = r0 :: rest := by
      cases rows with
      | nil => simp at hl; omega
      | cons a b => exact ⟨a, b, rfl⟩
    obtain ⟨o1, o2, o3⟩ := A1.obj (i := 4) rfl
    have A2 : At K B H1 (σ.set 8 (some v)) (hsl sa ss t ds m size p (r0 :: rest) s5 s6 s7 (.im (.str (SX.S (lets (r0 :: rest)))))) ((.ref r0.1, .ml r0.1 (r0.2.map dW)) :: gW rest) := A1
    obtain ⟨g1, g2, g3, ws, g4, g5⟩ := A2.gh _ List.mem_cons_self
    obtain ⟨k1, k2, k3⟩ := ok r0 List.mem_cons_self
    refine go_cons (ps_asg pe_any (pg_sub (pe_ix ix_list (pe_var (i := 4) rfl (.inl rfl)) pe_any (by intro _ _; rfl)) pe_any set_list (by intro _; rfl)) (by rfl) (by rfl) (by rfl)) ?_
    refine EV.use (X := CxF P w K mg base _ _ s__law_house f cdv A outer s H0 E) ev_str A2.envD fun v1 H2 e2 d2 => ?_
    cases d2
    refine ⟨_, o1, EV.use (X := CxF P w K mg base _ _ s__law_house f cdv A outer s H0 E) ev_int (A2.to e2).envD fun v2 H3 e3 d3 => ?_⟩
    cases d3
    have e4 := e2.trans e3
    refine ⟨p, _, 0, .ref r0.1, rfl, rfl, .of (e4 _ _ o2), atI_nat (j := 0) rfl, EV.use (X := CxF P w K mg base _ _ s__law_house f cdv A outer s H0 E) ev_int (A2.to e4).envD fun v3 H4 e5 d4 => ?_⟩
    cases d4
    have e6 := e4.trans e5
    refine ⟨r0.1, ws, 0, 0, rfl, rfl, e6 _ _ g4, ixN_lt (j := 0) (by rw [g5.length, List.length_map]; omega), go_nil ?_⟩
    have A3 := (A2.to e6).mutH (es := (r0.2.set 0 (.x .A)).map dW) (ws := ws.set 0 (.str "A")) (by rw [List.map_set]; exact (dps_same e6 g5).set (.str _) 0) (noLs_map noL_W _)
    refine fin _ _ ((r0.1, r0.2.set 0 (.x .A)) :: rest) _ _ _ _ A3 (fun r hr => ?_) hl ⟨_, List.mem_cons_self, .A, ?_⟩
    · rcases List.mem_cons.mp hr with rfl | hr
      · refine ⟨by simpa using k1, by simpa using k2, fun n hn => ?_⟩
        rcases List.mem_or_eq_of_mem_set hn with h | h
        · exact k3 n h
        · cases h
      · exact ok r (List.mem_cons_of_mem _ hr)
    · exact List.mem_of_getElem? (List.getElem?_set_self (by omega))
  · refine go_nil (fin _ _ rows _ _ _ _ A1 ok hl (lets_ex ok h4 fun e => ?_))
    rw [e] at hb
    simp [PyData.eqv, PyData.eqvAll] at hb
end
end TK

namespace TK
open PySem L2 TH PyProof.Rows
section
variable {P : Program} {w : World} {K : PySem.W.Frag} {mg : Str → Option Value} {base : Heap} {f : Addr} {fd : FuncData}
def pr_house (d : PyData) : Prop := ∃ m : Nat, 1 ≤ m ∧ m ≤ 4 ∧ d = dN m
def r_house (d z : PyData) : Prop := ∃ (m : Nat) (h : House), d = dN m ∧ GoodH h ∧ h.length ≤ m ∧ z = dH h
theorem dN_inj {a b : Nat} (h : dN a = dN b) : a = b := by
  have := PyData.int.inj h
  omega
/-- a draw of m -/
theorem cr_draw {m : Nat} {z : PyData} (h : CR (IS (dN m)) r_draw z) : ∃ k, k < m ∧ z = dN k := by
  obtain ⟨d, e, m', k, h1, h2, h3⟩ := h
  have : m = m' := dN_inj ((Eq.symm e).trans h1)
  subst this
  exact ⟨k, h2, h3⟩
abbrev dChoices (size : Nat) : List PyData := (rgD size ++ rgD size) ++ [.str "A", .str "B", .str "C"]
theorem choice_way {size : Nat} {z : PyData} (h : z ∈ dChoices size) : ∃ v : Way, z = dW v ∧ ∀ n, v = .h n → n < size := by
  have hr : ∀ z ∈ rgD size, ∃ v : Way, z = dW v ∧ ∀ n, v = .h n → n < size := fun z hz => by
    obtain ⟨i, hi, rfl⟩ := List.mem_map.mp hz
    exact ⟨.h i, rfl, fun n e => by cases e; exact List.mem_range.mp hi⟩
  rcases List.mem_append.mp h with h | h
  · rcases List.mem_append.mp h with h | h
    · exact hr z h
    · exact hr z h
  · have he : ∀ c : Ex, ∃ v : Way, PyData.str (exS c) = dW v ∧ ∀ n, v = .h n → n < size := fun c => ⟨.x c, rfl, fun n e => by cases e⟩
    rcases List.mem_cons.mp h with rfl | h
    · exact he .A
    · rcases List.mem_cons.mp h with rfl | h
      · exact he .B
      · rw [List.mem_singleton] at h
        subst h
        exact he .C
theorem fd__law_house (L : Lnk K mg "_law_house" s__law_house ["script", "town", "halls"]) (T : Bts mg) (F1 : FnD P w K mg base 1 "_law_draw" (spT K 1 pr_draw r_draw)) (F2 : FnD P w K mg base 2 "_law_pick" (spT K 1 pr_pick r_pick)) : FnD P w K mg base 3 "_law_house" (spT K 40 pr_house r_house) := L.fnD fun f fd F => by
  refine Fun.okG F sc__law_house (fun vs H Q E ⟨_, _, _, _, _, _, _, _, _, h, _⟩ => by rw [h]; rfl) ?_
  rintro cdv A outer s H vs Q E hr ⟨n, c, sa, t, v, ss, d, ws, ds, rfl, hc, h63, hs, hsv, hv, ⟨m, hm1, hm4, rfl⟩, ht, hws, tw, q⟩
  have A0 := At.startT (n := 10) (by decide) hsv ht hws tw.noL hv
  have l2 : ∀ {a b c d e f g h i j : Sl}, 1 < [a, b, c, d, e, f, g, h, i, j].length := by intros; show 1 < 10; decide
  -- size = 1 + _law_draw(script, town, halls)
  refine go_setX (n := n) (i := 1) (ρ := [.sc sa ss, .no, .im (dN m), .no, .no, .no, .no, .no, .no, .no]) A0 tw (k := 1) (by omega) 3 sc__law_house.nd rfl (.inl rfl) (ex_bin (R := fun z => ∃ k : Nat, k < m ∧ z = dN (1 + k)) (ex_ev ev_int rfl) (ex_callT (j := 0) F1 (hr.mono (by decide)) rfl l2 rfl hs h63 (by decide) rfl (.inl rfl) rfl (.inl rfl) (ea_ev (d := dN m) (ev_var (i := 2) rfl (.inl rfl) rfl) rfl l2) (fun d hd => ⟨m, by omega, by omega, hd⟩)) (fun d e hd he => ?_)) ?_
  · obtain ⟨k, hk, rfl⟩ := cr_draw he
    cases hd
    exact ⟨_, od_add, rfl, k, hk, by show PyData.int _ = PyData.int _; congr 1⟩
  rintro v3 y ds1 H1 ⟨z, rfl, size0, hsz, rfl⟩ tw1 A1
  obtain ⟨size, hS, hsz1, hsz2⟩ : ∃ size, 1 + size0 = size ∧ 1 ≤ size ∧ size ≤ m := ⟨_, rfl, by omega, by omega⟩
  rw [hS] at A1
  -- found = []
  refine go_cons (ps_set (i := 4) sc__law_house.nd rfl (.inl rfl) pe_any (by rfl)) (EVL.use (X := CxF P w K mg base _ _ s__law_house f cdv A outer s H E) (el_lst es_nil (by decide)) A1.envD fun p vs H2 e0 e1 e2 dv => ?_)
  cases dv
  have A2 : At K (wo H t) H2 _ (hsl sa ss t ds1 m size p [] .no .no .no .no) (gW []) := A1.setO 4 e0 e1 e2 rfl
  have hS4 : size ≤ 4 := by omega
  -- the rest of the def, behind both loops
  have fin : ∀ (σ : L2.St) (H' : Hp) (rows : Rws) (ds : List PyData) (s5 s6 s7 s8 : Sl), Tw n (c + 40) ds → At K (wo H t) H' σ (hsl sa ss t ds m size p rows s5 s6 s7 s8) (gW rows) → RwOk size rows → rows.length = size → GO (CxF P w K mg base ["script", "town", "halls", "size", "found", "k", "row", "way", "letters", "sign"] "_law_house" s__law_house f cdv A outer s H E) ((defBody s__law_house).drop 4) { nx := fun _ H' => Q .non H', rt := Q } σ H' := fun σ H' rows ds s5 s6 s7 s8 tw A ok hl => house_tail T hr A ok hl hsz1 hS4 fun v H2 ws h g hh e1 e2 e3 dv => q v H2 ws ds _ e1 e2 e3 tw dv (noL_H h) ⟨m, h, rfl, g, by omega, rfl⟩
  -- for k in range(size)
  refine go_forRX (W := fun M i σ H' => M = size ∧ ∃ (rows : Rws) (ds : List PyData) (s5 s6 s7 s8 : Sl), Tw n (c + 1 + 4 * i) ds ∧ At K (wo H t) H' σ (hsl sa ss t ds m size p rows s5 s6 s7 s8) (gW rows) ∧ RwOk size rows ∧ rows.length = i) 5 (fun Q q => ?_) PassesOwn.never rfl rfl T.range sc__law_house.nd rfl (.inl rfl) ?_ ?_
  · refine EV.use (X := CxF P w K mg base _ _ s__law_house f cdv A outer s H E) (ev_var (i := 3) rfl (.inl rfl) rfl) A2.envD fun v H3 e3 dv => ?_
    cases dv
    exact q size H3 (by omega) ⟨rfl, [], ds1, .no, .no, .no, .no, tw1, A2.to e3, (fun r hr => nomatch hr), rfl⟩
  · rintro M i σ' H' hi ⟨rfl, rows, ds2, s5, s6, s7, s8, tw2, A3, ok, hl⟩
    have A4 : At K (wo H t) H' _ (hsl sa ss t ds2 m M p rows (.im (dN i)) s6 s7 s8) (gW rows) := A3.setI 5 (d := dN i) (.int _) rfl
    refine go_setL A4 6 sc__law_house.nd rfl (.inl rfl) (el_lst es_nil (by decide)) rfl fun r H5 A5 => ?_
    -- for way in range(1 + _law_draw(script, town, 3))
    refine go_forRX (W := fun M' i' σ H' => 1 ≤ M' ∧ M' ≤ 3 ∧ ∃ (ws : List Way) (ds : List PyData) (s7 : Sl), Tw n (c + 1 + 4 * i + 1 + i') ds ∧ At K (wo H t) H' σ (hsl sa ss t ds m M p rows (.im (dN i)) (.ml r (ws.map dW)) s7 s8) (gW rows) ∧ ws.length = i' ∧ ∀ n, Way.h n ∈ ws → n < M) 7 (fun Q q => ?_) PassesOwn.never rfl rfl T.range sc__law_house.nd rfl (.inl rfl) ?_ ?_
    · refine EX.use (X := CxF P w K mg base ["script", "town", "halls", "size", "found", "k", "row", "way", "letters", "sign"] "_law_house" s__law_house f cdv A outer s H E) (n := n) (i := 1) (k := 1) (ρ := [.sc sa ss, .no, .im (dN m), .im (dN M), .ob p (.lst (refs rows)), .im (dN i), .ml r [], s7, s8, .no]) (ex_bin (R := fun z => ∃ k : Nat, k < 3 ∧ z = dN (1 + k)) (ex_ev ev_int rfl) (ex_callT (j := 0) F1 (hr.mono (by decide)) rfl l2 rfl hs h63 (by decide) rfl (.inl rfl) rfl (.inl rfl) (ea_ev (d := dN 3) ev_int rfl l2) (fun d hd => ⟨3, by omega, by omega, hd⟩)) (fun d e hd he => ?_)) (by omega) tw2 A5 ?_
      · obtain ⟨k, hk, rfl⟩ := cr_draw he
        cases hd
        exact ⟨_, od_add, rfl, k, hk, by show PyData.int _ = PyData.int _; congr 1⟩
      · rintro v6 y6 ds6 H6 ⟨z6, rfl, k6, hk6, rfl⟩ tw6 A6
        have d6 := A6.g0
        cases d6
        exact q _ H6 (by omega) ⟨by omega, by omega, [], ds6, s7, tw6, A6.unG, rfl, fun n hn => nomatch hn⟩
    · rintro M' i' σ6 H6 hi' ⟨hM1, hM3, ws, ds6, s7', tw6, A6, hwl, hwo⟩
      have A7 : At K (wo H t) H6 _ (hsl sa ss t ds6 m M p rows (.im (dN i)) (.ml r (ws.map dW)) (.im (dN i')) s8) (gW rows) := A6.setI 7 (d := dN i') (.int _) rfl
      refine go_appendX (n := n) (i := 1) (ρ := [.sc sa ss, .no, .im (dN m), .im (dN M), .ob p (.lst (refs rows)), .im (dN i), .ml r (ws.map dW), .im (dN i'), s8, .no]) (k := 1) A7 tw6 (by omega) 6 (by decide) rfl rfl (.inl rfl) (ex_callT (j := 0) F2 (hr.mono (by decide)) rfl l2 rfl hs h63 (by decide) rfl (.inl rfl) rfl (.inl rfl) (ea_lst (ex_evL (es := dChoices M) (el_bin (EVL.ev (el_bin (EVL.ev (el_listRg rfl rfl T.list rfl T.range (ev_var (i := 3) rfl (.inl rfl) rfl) (by omega))) (EVL.ev (el_listRg rfl rfl T.list rfl T.range (ev_var (i := 3) rfl (.inl rfl) rfl) (by omega))) (ol_cat (by simp [rgD]; omega)))) (EVL.ev (el_lst (es_cons ev_str (es_cons ev_str (es_cons ev_str es_nil))) (by decide))) (ol_cat (by simp [rgD]; omega))) ?nlc) l2) (fun d hd => ?prc)) ?nlz (by rw [List.length_map]; omega) ?_
      case nlc =>
        refine noLs_iff.mpr fun z hz => ?_
        obtain ⟨v, rfl, _⟩ := choice_way hz
        exact noL_W v
      case prc =>
        obtain ⟨es, rfl, rfl⟩ := hd
        refine ⟨_, rfl, by simp, by simp [rgD]; omega, noLs_iff.mpr fun z hz => ?_⟩
        obtain ⟨v, rfl, _⟩ := choice_way hz
        exact noL_W v
      case nlz =>
        rintro z ⟨d, ⟨es, rfl, rfl⟩, es', he, hz⟩
        cases he
        obtain ⟨v, rfl, _⟩ := choice_way hz
        exact noL_W v
      rintro z ds8 H8 ⟨d, ⟨es, rfl, rfl⟩, es', he, hz⟩ tw8 A8
      cases he
      obtain ⟨v, rfl, hv⟩ := choice_way hz
      refine go_nil ⟨hM1, hM3, ws ++ [v], ds8, _, tw8, by rw [List.map_append]; exact A8, by simp [hwl], fun n hn => ?_⟩
      rcases List.mem_append.mp hn with h | h
      · exact hwo n h
      · rw [List.mem_singleton] at h
        exact hv n h.symm
    · rintro M' σ6 H6 ⟨hM1, hM3, ws, ds6, s7', tw6, A6, hwl, hwo⟩
      -- found.append(row)
      have A7 := A6.give (i := 6) rfl
      obtain ⟨s4, o2, o3⟩ := A7.obj (i := 4) rfl
      obtain ⟨v6, s6', e6⟩ := (A7.ok 6 _ rfl).resolve_left (by intro z; cases z)
      have e6' : v6 = .ref r := e6
      subst e6'
      refine go_cons (ps_expr (pe_bm PySem.F.plainAttrs_list PySem.F.slot_list_append PySem.F.type_list_append mt_append (pe_var (i := 4) rfl (.inl rfl)) (pa_cons (pe_var (i := 6) rfl (.inl rfl)) pa_nil)) (by rfl)) ?_
      refine ⟨_, s4, .inl ⟨rfl, _, .of o2⟩, _, s6', p, _, _, rfl, rfl, o2, ?_, go_nil ⟨rfl, rows ++ [(r, ws)], ds6, .im (dN i), .va (.ref r), s7', s8, tw6.le (by omega), ?_, ?_, by simp [hl]⟩⟩
      · rw [List.length_map]
        exact Nat.lt_of_lt_of_le (show rows.length < 100 by omega) (by decide)
      · have A8 := A7.mutO (i := 4) (o' := .lst (refs rows ++ [.ref r])) rfl rfl
        have A9 := A8.permG (γ' := gW (rows ++ [(r, ws)])) (by
          show ((V.ref r, Sl.ml r (ws.map dW)) :: gW rows).Perm (gRows ((rows ++ [(r, ws)]).map _))
          unfold gRows
          rw [List.map_append, List.map_append]
          exact (List.perm_append_singleton _ _).symm)
        have er : refs (rows ++ [(r, ws)]) = refs rows ++ [.ref r] := by simp [refs]
        unfold hsl
        rw [er]
        exact A9
      · intro x hx
        rcases List.mem_append.mp hx with h | h
        · exact ok x h
        · rw [List.mem_singleton] at h
          subst h
          exact ⟨by show 1 ≤ ws.length; omega, by show ws.length ≤ 3; omega, hwo⟩
  · rintro M σ' H' ⟨rfl, rows, ds2, s5, s6, s7, s8, tw2, A3, ok, hl⟩
    -- if _law_draw(script, town, 6) > 0
    refine go_ifT2 (n := n) (i := 1) (ρ := [.sc sa ss, .no, .im (dN m), .im (dN M), .ob p (.lst (refs rows)), s5, s6, s7, s8, .no]) (k := 1) A3 tw2 (by omega) (etx_cmp (R := fun _ => True) (ex_callT (j := 0) F1 (hr.mono (by decide)) rfl l2 rfl hs h63 (by decide) rfl (.inl rfl) rfl (.inl rfl) (ea_ev (d := dN 6) ev_int rfl l2) (fun d hd => ⟨6, by omega, by omega, hd⟩)) (ex_ev ev_int rfl) (fun d e hd he => ?_) (nomark _)) (fun _ ds3 H3 tw3 A4 => ?_) (fun _ ds3 H3 tw3 A4 => ?_)
    · obtain ⟨k, hk, rfl⟩ := cr_draw hd
      cases he
      exact ⟨_, oc_gt, trivial⟩
    · -- for row in found
      obtain ⟨s4, _, _⟩ := A4.obj (i := 4) rfl
      refine go_forV (W := fun i σ H' => ∃ (rows' : Rws) (ds : List PyData) (s6 : Sl), Tw n (c + 1 + 4 * M + 1 + 3 * i) ds ∧ At K (wo H t) H' σ (hsl sa ss t ds m M p rows' s5 s6 s7 s8) (gW rows') ∧ RwOk M rows' ∧ refs rows' = refs rows) (vs := refs rows) (p := p) (k := 4) 6 s4 rfl (.inl rfl) ⟨rows, ds3, s6, tw3, A4, ok, rfl⟩ ?_ PassesOwn.never rfl sc__law_house.nd rfl (.inl rfl) ?_ ?_
      · rintro i σ' H' ⟨rows', ds, s6, _, A5, _, er⟩
        obtain ⟨_, o2, _⟩ := A5.obj (i := 4) rfl
        rw [o2, er]
      · rintro i v0 σ1 H1 hv0 ⟨rows', ds4, s6', tw4, A5, ok', er⟩
        rw [← er, List.getElem?_map] at hv0
        obtain ⟨r0, hr0, rfl⟩ := Option.map_eq_some_iff.mp hv0
        have hi4 : i < M := by
          have h1 := (List.getElem?_eq_some_iff.mp hr0).1
          have h2 := congrArg List.length er
          rw [List.length_map, List.length_map] at h2
          omega
        obtain ⟨pre, post, erows, hpre⟩ : ∃ pre post, rows' = pre ++ r0 :: post ∧ pre.length = i := by
          obtain ⟨h1, h2⟩ := List.getElem?_eq_some_iff.mp hr0
          exact ⟨rows'.take i, rows'.drop (i + 1), by rw [← h2, ← List.drop_eq_getElem_cons h1, List.take_append_drop], by rw [List.length_take]; omega⟩
        subst erows
        have permR : ∀ x : Addr × List Way, (gW (pre ++ x :: post)).Perm ((.ref x.1, .ml x.1 (x.2.map dW)) :: gW (pre ++ post)) := fun x => by
          show (gRows ((pre ++ x :: post).map _)).Perm (_ :: gRows ((pre ++ post).map _))
          unfold gRows
          rw [List.map_append, List.map_append, List.map_append, List.map_append, List.map_cons, List.map_cons]
          exact List.perm_middle
        have A6 : At K (wo H t) H1 (σ1.set 6 (some (.ref r0.1))) [.sc sa ss, .ml t ds4, .im (dN m), .im (dN M), .ob p (.lst (refs (pre ++ r0 :: post))), s5, .ml r0.1 (r0.2.map dW), s7, s8, .no] (gW (pre ++ post)) := (A5.permG (permR r0)).take 6
        have okr := ok' r0 (by simp)
        have back : ∀ (ws' : List Way) (ds : List PyData) (H' : Hp), Tw n (c + 1 + 4 * M + 1 + 3 * (i + 1)) ds → At K (wo H t) H' (σ1.set 6 (some (.ref r0.1))) [.sc sa ss, .ml t ds, .im (dN m), .im (dN M), .ob p (.lst (refs (pre ++ r0 :: post))), s5, .ml r0.1 (ws'.map dW), s7, s8, .no] (gW (pre ++ post)) → (1 ≤ ws'.length ∧ ws'.length ≤ 3 ∧ ∀ n, Way.h n ∈ ws' → n < M) →
            ∃ (rows' : Rws) (ds : List PyData) (s6 : Sl), Tw n (c + 1 + 4 * M + 1 + 3 * (i + 1)) ds ∧ At K (wo H t) H' (σ1.set 6 (some (.ref r0.1))) (hsl sa ss t ds m M p rows' s5 s6 s7 s8) (gW rows') ∧ RwOk M rows' ∧ refs rows' = refs rows := fun ws' ds H' tw A7 okw => by
          have e0 : refs (pre ++ (r0.1, ws') :: post) = refs (pre ++ r0 :: post) := by simp [refs]
          refine ⟨pre ++ (r0.1, ws') :: post, ds, .va (.ref r0.1), tw, ?_, fun x hx => ?_, e0.trans er⟩
          · have A8 := (A7.give (i := 6) rfl).permG (permR (r0.1, ws')).symm
            unfold hsl
            rw [e0]
            exact A8
          · rcases List.mem_append.mp hx with h | h
            · exact ok' x (List.mem_append.mpr (.inl h))
            · rcases List.mem_cons.mp h with rfl | h
              · exact okw
              · exact ok' x (List.mem_append.mpr (.inr (List.mem_cons_of_mem _ h)))
        refine go_ifT2 (n := n) (i := 1) (ρ := [.sc sa ss, .no, .im (dN m), .im (dN M), .ob p (.lst (refs (pre ++ r0 :: post))), s5, .ml r0.1 (r0.2.map dW), s7, s8, .no]) (k := 1) A6 tw4 (by omega) (etx_cmp (R := fun _ => True) (ex_callT (j := 0) F1 (hr.mono (by decide)) rfl l2 rfl hs h63 (by decide) rfl (.inl rfl) rfl (.inl rfl) (ea_ev (d := dN 2) ev_int rfl l2) (fun d hd => ⟨2, by omega, by omega, hd⟩)) (ex_ev ev_int rfl) (fun d e hd he => ?_) (nomark _)) (fun _ ds5 H5 tw5 A7 => ?_) (fun _ ds5 H5 tw5 A7 => ?_)
        · obtain ⟨k, hk, rfl⟩ := cr_draw hd
          cases he
          exact ⟨_, oc_eqI, trivial⟩
        · refine go_setIxX (n := n) (i := 1) (ρ := [.sc sa ss, .no, .im (dN m), .im (dN M), .ob p (.lst (refs (pre ++ r0 :: post))), s5, .ml r0.1 (r0.2.map dW), s7, s8, .no]) (k := 1) (k' := 1) A7 tw5 (by omega) 6 (by decide) rfl rfl (.inl rfl) (ex_callT (j := 0) F2 (hr.mono (by decide)) rfl l2 rfl hs h63 (by decide) rfl (.inl rfl) rfl (.inl rfl) (ea_lst (ex_evL (es := [.str "A", .str "B"]) (el_lst (es_cons ev_str (es_cons ev_str es_nil)) (by decide)) (by decide)) l2) (fun d hd => ?prc)) ?nlz (ex_callT (j := 0) F1 (hr.mono (by decide)) rfl l2 rfl hs h63 (by decide) rfl (.inl rfl) rfl (.inl rfl) (ea_ev (d := dN r0.2.length) (EV.cast (ev_callB ca_lenL rfl T.len (by decide +kernel) (es_cons (ev_var (i := 6) rfl (.inl rfl) rfl) es_nil)) (by rw [List.length_map])) rfl l2) (fun d hd => ⟨r0.2.length, by omega, by omega, hd⟩)) ?ix ?_
          case prc =>
            obtain ⟨es, rfl, rfl⟩ := hd
            exact ⟨_, rfl, by simp, by simp, by decide⟩
          case nlz =>
            rintro z ⟨d, ⟨es, rfl, rfl⟩, es', he, hz⟩
            cases he
            exact noLs_iff.mp (by decide : noLs [.str "A", .str "B"] = true) z hz
          case ix =>
            intro y hy
            obtain ⟨k, hk, rfl⟩ := cr_draw hy
            exact ⟨k, by rw [List.length_map]; exact hk, rfl⟩
          rintro z k ds8 H8 ⟨d, ⟨es, rfl, rfl⟩, es', he, hz⟩ hk _ tw8 A8
          cases he
          obtain ⟨cx, rfl⟩ : ∃ cx : Ex, z = dW (.x cx) := by
            rcases List.mem_cons.mp hz with rfl | hz
            · exact ⟨.A, rfl⟩
            · rw [List.mem_singleton] at hz
              exact ⟨.B, hz⟩
          refine go_nil (go_nil (back (r0.2.set k (.x cx)) ds8 H8 (tw8.le (by omega)) (by rw [List.map_set]; exact A8) ⟨by simpa using okr.1, by simpa using okr.2.1, fun n hn => ?_⟩))
          rcases List.mem_or_eq_of_mem_set hn with h | h
          · exact okr.2.2 n h
          · cases h
        · exact go_nil (go_nil (back r0.2 ds5 H5 (tw5.le (by omega)) A7 okr))
      · rintro σ1 H1 ⟨rows', ds4, s6', tw4, A5, ok', er⟩
        have e1 : rows'.length = M := by
          have := congrArg List.length er
          rw [List.length_map, List.length_map] at this
          omega
        rw [List.length_map] at tw4
        exact go_nil (fin _ _ rows' ds4 _ _ _ _ (tw4.le (by omega)) A5 ok' e1)
    · exact go_nil (fin _ _ rows ds3 _ _ _ _ (tw3.le (by omega)) A4 ok hl)
end
end TK

namespace TK
open PySem L2 TH PyProof.Rows
section
variable {P : Program} {w : World} {K : PySem.W.Frag} {mg : Str → Option Value} {base : Heap} {f : Addr} {fd : FuncData}
/-! ### the law's own exits, reach, safe -/
theorem row_ex (r : List Way) : (r.filter isX).map dW = (r.filterMap exW).map dX := by
  induction r with
  | nil => rfl
  | cons v r ih =>
    cases v with
    | h n => rw [List.filterMap_cons_none (show exW (.h n) = none from rfl), List.filter_cons_of_neg (by simp [isX]), ih]
    | x c => rw [List.filterMap_cons_some (show exW (.x c) = some c from rfl), List.filter_cons_of_pos (by simp [isX]), List.map_cons, List.map_cons, ih]; rfl
theorem exitWays_take {h : House} {i : Nat} {r : List Way} (hi : h[i]? = some r) : exitWays (h.take (i + 1)) = exitWays (h.take i) ++ r.filterMap exW := by
  unfold exitWays
  rw [take_succ hi, List.flatMap_append]
  simp
theorem exitWays_le {h : House} (g : GoodH h) (i : Nat) : (exitWays (h.take i)).length ≤ 12 := by
  refine Nat.le_trans ?_ (exitWays_len g)
  have e : exitWays h = exitWays (h.take i) ++ exitWays (h.drop i) := by
    unfold exitWays
    rw [← List.flatMap_append, List.take_append_drop]
  rw [e, List.length_append]
  omega
theorem noL_X (l : List Ex) : noLs (l.map dX) = true := noLs_map (fun _ => rfl) l
def r_law_exits (ds : List PyData) (z : List PyData) : Prop := ∃ (h : House), GoodH h ∧ ds = [dH h] ∧ z = (exitsOf h).map dX
theorem sc__law_exits : FnScope ["house", "found", "row", "way"] ["house"] (defScope s__law_exits) := ⟨rfl, rfl, rfl, by decide +kernel, rfl, by decide +kernel, by decide +kernel⟩
theorem fd__law_exits (L : Lnk K mg "_law_exits" s__law_exits ["house"]) (T : Bts mg) : FnD P w K mg base 1 "_law_exits" (spL K 1 r_law_exits) := L.fnD fun f fd F => by
  refine Fun.okL F sc__law_exits rfl (by decide) fun cdv A outer s H Q E ds z σ hr rel hl q A0 => ?_
  obtain ⟨h, g, rfl, rfl⟩ := rel
  refine go_setL A0 1 sc__law_exits.nd rfl (.inl rfl) (el_lst es_nil (by decide)) rfl fun p1 H1 A1 => ?_
  refine go_for (ds := h.map dR) (u := fun d ρ => ρ.set 2 (.im d)) (Iv := fun i ρ => ∃ p s2, ρ = [.im (dH h), .ml p ((exitWays (h.take i)).map dX), s2, .no]) A1 PassesOwn.never rfl (ev_var (i := 0) rfl (.inl rfl) rfl) (noLs_map noL_R h) (pg_name (i := 2) sc__law_exits.nd rfl (.inl rfl)) (fun d _ => ra_name 2 d) ⟨p1, .no, rfl⟩ ?_ ?_
  · rintro γ' i d ρ' σ' H' hd ⟨p, s2, rfl⟩ A2
    rw [List.getElem?_map] at hd
    obtain ⟨r, hr', rfl⟩ := Option.map_eq_some_iff.mp hd
    have hrm : r ∈ h := List.mem_of_getElem? hr'
    refine go_setL A2 1 sc__law_exits.nd rfl (.inl rfl) (ds := (exitWays (h.take (i + 1))).map dX) (EVL.cast (el_bin (ev_var (i := 1) rfl (.inl rfl) rfl) (EVL.ev (el_lcT (ns := r) (enc := dW) (dec := wayOf) (own := [("way", 3)]) (u := fun d r => r.set 3 (some d)) (sl := [3]) (pt := isX) (f := dW) (fun _ _ => wayOf_d _) rfl sc__law_exits.nd (it_tupS (ev_var (i := 2) rfl (.inl rfl) rfl)) (blkOk_by (N := ["house", "found", "row", "way"]) (sc := defScope s__law_exits) (by decide +kernel)) (fun _ _ _ _ _ => (pg_name (i := 3) sc__law_exits.nd rfl (.inl rfl))) (fun d _ => rg_name 3 _) (by decide) (fun d hd _ _ _ _ _ => ets_one (EVT.cast (et_val (ev_isStr (ev_var (i := 3) rfl (.inl rfl) rfl) rfl T.isinstance rfl T.str)) (isStr_dW d))) (fun d hd hp _ _ _ _ _ => (ev_var (i := 3) rfl (.inl rfl) rfl)) (fun v _ _ => noL_W v) (by have := (g.rows r hrm).2; omega))) (ol_cat ?_)) ?_) (noL_X _) fun p2 H2 A3 => go_nil ⟨_, ⟨p2, _, rfl⟩, A3⟩
    · have h1 := exitWays_le g i
      have h2 := (g.rows r hrm).2
      have h3 := List.length_filter_le isX r
      rw [List.length_map, List.length_map]
      omega
    · rw [row_ex, exitWays_take hr', List.map_append]
  · rintro ρ' σ' H' ⟨p, s2, rfl⟩ A2
    rw [List.length_map, List.take_length] at A2
    refine go_retL A2 (ds := (exitsOf h).map dX) (EVL.cast (el_srtS (xs := (exitWays h).map exS) (zs := (exitsOf h).map exS) (EV.cast (ev_var (i := 1) rfl (.inl rfl) rfl) (by rw [map_exS])) ?_ ?_ rfl rfl T.sorted rfl T.set) (map_exS _).symm) ?_
    · rw [List.length_map]
      exact Nat.le_trans (exitWays_len g) (by decide)
    · refine srtS_is ?_ (exitsOf_sorted h) fun k => ?_
      · exact List.pairwise_map.mpr ((exitsOf_nodup h).imp fun hne he => hne (exS_inj he))
      · rw [List.mem_map, List.mem_map]
        constructor
        · rintro ⟨c, hc, rfl⟩
          exact ⟨c, mem_exitWays.mpr (mem_exitsOf.mp hc), rfl⟩
        · rintro ⟨c, hc, rfl⟩
          exact ⟨c, mem_exitsOf.mpr (mem_exitWays.mp hc), rfl⟩
    · intro p vs H' h1 h2 h3 h4
      exact q _ _ ⟨p, vs, rfl, h1, h2, h3, h4⟩
def r_law_reach (ds : List PyData) (z : List PyData) : Prop := ∃ (h : House) (x : Nat), GoodH h ∧ x < h.length ∧ ds = [dH h, dN x] ∧ z = (reachL h x).map dN
theorem sc__law_reach : FnScope ["house", "hall", "met", "one", "other", "way"] ["house", "hall"] (defScope s__law_reach) := ⟨rfl, rfl, rfl, by decide +kernel, rfl, by decide +kernel, by decide +kernel⟩
theorem noL_N (l : List Nat) : noLs (l.map dN) = true := noLs_map (fun _ => rfl) l
theorem map_nat (l : List Nat) : l.map dN = (l.map fun (n : Nat) => (n : Int)).map PyData.int := by rw [List.map_map]; rfl
theorem newW_eq (met : List Nat) (v : Way) : (!isStrD (dW v) && !((met.map dN).any fun y => PyData.eqv y (dW v))) = newW met v := by
  cases v with
  | x c => rfl
  | h z =>
    show (!((met.map dN).any fun y => PyData.eqv y (dN z))) = !decide (z ∈ met)
    congr 1
    rw [Bool.eq_iff_iff, List.any_eq_true, decide_eq_true_iff]
    constructor
    · rintro ⟨y, hy, hq⟩
      obtain ⟨m, hm, rfl⟩ := List.mem_map.mp hy
      rw [eqv_nat, decide_eq_true_iff] at hq
      subst hq
      exact hm
    · intro hz
      exact ⟨dN z, List.mem_map.mpr ⟨z, hz, rfl⟩, by rw [eqv_nat]; simp⟩
theorem newOf_map (h : House) (met : List Nat) (o : Nat) : ((row h o).filter (newW met)).map dW = (newOf h met o).map dN := by
  unfold newOf
  rw [List.map_map]
  refine List.map_congr_left fun v hv => ?_
  have := (List.mem_filter.mp hv).2
  cases v with
  | h z => rfl
  | x c => simp [newW] at this
theorem fd__law_reach (L : Lnk K mg "_law_reach" s__law_reach ["house", "hall"]) (T : Bts mg) : FnD P w K mg base 1 "_law_reach" (spL K 2 r_law_reach) := L.fnD fun f fd F => by
  refine Fun.okL F sc__law_reach rfl (by decide) fun cdv A outer s H Q E ds z σ hr rel hl q A0 => ?_
  obtain ⟨h, x, g, hx, rfl, rfl⟩ := rel
  have h4 := g.four
  refine go_setL A0 2 sc__law_reach.nd rfl (.inr rfl) (ds := [x].map dN) (el_lst (es_cons (ev_var (i := 1) rfl (.inl rfl) rfl) es_nil) (by simp)) rfl fun p2 H2 A2 => ?_
  refine go_for (ds := h.map dR) (u := fun d ρ => ρ.set 3 (.im d)) (Iv := fun i ρ => ∃ p s3 s4 met, ρ = [.im (dH h), .im (dN x), .ml p (met.map dN), s3, s4, .no] ∧ RO h x met i) A2 PassesOwn.never rfl (ev_var (i := 0) rfl (.inl rfl) rfl) (noLs_map noL_R h) (pg_name (i := 3) sc__law_reach.nd rfl (.inl rfl)) (fun d _ => ra_name 3 d) ⟨p2, .no, .no, [x], rfl, RO.start h x⟩ ?_ ?_
  · rintro γ' i d ρ' σ' H' hd ⟨p, s3, s4, met, rfl, I⟩ A3
    have hlen : met.length ≤ 12 := I.few.len g fun m hm => (I.rc m hm).lt g hx
    refine go_forL (ds := met.map dN) (u := fun d ρ => ρ.set 4 (.im d)) (Iv := fun j ρ => ∃ p s4 met', ρ = [.im (dH h), .im (dN x), .ml p (met'.map dN), .im d, s4, .no] ∧ RI h x met met' j) A3 PassesOwn.never rfl (el_callTy cl_listL rfl T.list (by decide +kernel) (es_cons (ev_var (i := 2) rfl (.inr (.inl rfl)) rfl) es_nil)) (noL_N _) (pg_name (i := 4) sc__law_reach.nd rfl (.inl rfl)) (fun d _ => ra_name 4 d) ⟨p, s4, met, rfl, I.inner⟩ ?_ ?_
    · rintro γ2 j d2 ρ2 σ2 H3 hd2 ⟨p3, s5, met', rfl, J⟩ A4
      rw [List.getElem?_map] at hd2
      obtain ⟨o, ho, rfl⟩ := Option.map_eq_some_iff.mp hd2
      have hol : o < h.length := (I.rc o (List.mem_of_getElem? ho)).lt g hx
      have hlen' : met'.length ≤ 12 := J.few.len g fun m hm => (J.rc m hm).lt g hx
      refine go_setL A4 2 sc__law_reach.nd rfl (.inr rfl) (ds := (met' ++ newOf h met' o).map dN) (EVL.cast (el_bin (ev_var (i := 2) rfl (.inr (.inl rfl)) rfl) (EVL.ev (el_lcT (ns := row h o) (enc := dW) (dec := wayOf) (own := [("way", 5)]) (u := fun d r => r.set 5 (some d)) (sl := [5]) (pt := newW met') (f := dW) (fun _ _ => wayOf_d _) rfl sc__law_reach.nd (it_tupS (ev_ix (ev_var (i := 0) rfl (.inl rfl) rfl) (ev_var (i := 4) rfl (.inl rfl) rfl) (ix_T (atI_map (f := dR) (row_some hol))))) (blkOk_by (N := ["house", "hall", "met", "one", "other", "way"]) (sc := defScope s__law_reach) (by decide +kernel)) (fun _ _ _ _ _ => (pg_name (i := 5) sc__law_reach.nd rfl (.inl rfl))) (fun d _ => rg_name 5 _) (by decide) (fun d hd _ _ _ _ _ => ets_one (EVT.cast (EVW.t (ew_and (et_not (et_val (ev_isStr (ev_var (i := 5) rfl (.inl rfl) rfl) rfl T.isinstance rfl T.str))) fun _ => (ew_and1 (et_cmp (ev_var (i := 5) rfl (.inl rfl) rfl) (ev_var (i := 2) rfl (.inr (.inl rfl)) rfl) (oc_notInL hr ((sh_W d).shaped (by decide)) (sh_mapL (n := 0) (f := dN) (fun _ => sh_int _) met')) (by rfl))))) (newW_eq met' d))) (fun d hd hp _ _ _ _ _ => (ev_var (i := 5) rfl (.inl rfl) rfl)) (fun v _ _ => noL_W v) (by have := row_len g o; omega))) (ol_cat ?_)) ?_) (noL_N _) fun p4 H4 A5 => go_nil ⟨_, ⟨p4, _, met' ++ newOf h met' o, rfl, J.step g ho⟩, A5⟩
      · have h2 := row_len g o
        have h3 := List.length_filter_le (newW met') (row h o)
        rw [List.length_map, List.length_map]
        omega
      · rw [newOf_map, List.map_append]
    · rintro ρ2 σ2 H3 ⟨p3, s5, met', rfl, J⟩ A4
      rw [List.length_map] at J
      exact go_nil ⟨_, ⟨p3, _, _, met', rfl, I.step J⟩, A4⟩
  · rintro ρ' σ' H' ⟨p, s3, s4, met, rfl, I⟩ A3
    rw [List.length_map] at I
    have hlen : met.length ≤ 12 := I.few.len g fun m hm => (I.rc m hm).lt g hx
    refine go_retL A3 (ds := (reachL h x).map dN) (EVL.cast (el_srtI (xs := met.map fun (n : Nat) => (n : Int)) (zs := (reachL h x).map fun (n : Nat) => (n : Int)) (EV.cast (ev_var (i := 2) rfl (.inr (.inl rfl)) rfl) (by rw [map_nat])) (by rw [List.length_map]; omega) ?_ rfl rfl T.sorted rfl T.set) (map_nat _).symm) fun p vs H' h1 h2 h3 h4 => q _ _ ⟨p, vs, rfl, h1, h2, h3, h4⟩
    refine srtI_is ?_ fun k => ?_
    · rw [List.pairwise_map]
      exact (reachL_pw h x).imp fun h => by omega
    · rw [List.mem_map, List.mem_map]
      constructor
      · rintro ⟨m, hm, rfl⟩
        exact ⟨m, (I.fin g hx m).mpr hm, rfl⟩
      · rintro ⟨m, hm, rfl⟩
        exact ⟨m, (I.fin g hx m).mp hm, rfl⟩
/-- the exits of the rows of some halls -/
def exR (h : House) (l : List Nat) : List Ex := l.flatMap fun y => (row h y).filterMap exW
theorem exR_len {h : House} (g : GoodH h) (l : List Nat) : (exR h l).length ≤ l.length * 3 := by
  unfold exR
  rw [List.length_flatMap]
  refine sum_ones fun y _ => ?_
  exact Nat.le_trans (List.length_filterMap_le _ _) (row_len g y)
theorem exR_nil {h : House} (g : GoodH h) {x : Nat} (hx : x < h.length) : exR h (reachL h x) = [] ↔ ¬ HasEx h x := by
  unfold exR
  rw [List.flatMap_eq_nil_iff]
  constructor
  · rintro q ⟨y, r, c, hc⟩
    have h1 := q y (mem_reachL.mpr ⟨r.lt g hx, r⟩)
    rw [List.filterMap_eq_nil_iff] at h1
    have := h1 _ hc
    cases this
  · intro q y hy
    rw [List.filterMap_eq_nil_iff]
    intro v hv
    cases v with
    | h n => rfl
    | x c => exact absurd ⟨y, (mem_reachL.mp hy).2, c, hv⟩ q
def r_law_safe (ds : List PyData) (z : PyData) : Prop := ∃ (h : House) (x : Nat), GoodH h ∧ x < h.length ∧ ds = [dH h, dN x] ∧ z = .bool (safeB h x)
theorem sc__law_safe : FnScope ["house", "hall", "other", "some", "there", "way"] ["house", "hall"] (defScope s__law_safe) := ⟨rfl, rfl, rfl, by decide +kernel, rfl, by decide +kernel, by decide +kernel⟩
theorem fd__law_safe (L : Lnk K mg "_law_safe" s__law_safe ["house", "hall"]) (T : Bts mg) (F1 : FnD P w K mg base 1 "_law_reach" (spL K 2 r_law_reach)) : FnD P w K mg base 2 "_law_safe" (spR K 2 r_law_safe) := L.fnD fun f fd F => by
  refine Fun.okD F sc__law_safe rfl (by decide) fun cdv A outer s H Q E ds z σ hr rel hl q A0 => ?_
  obtain ⟨h, x, g, hx, rfl, rfl⟩ := rel
  have h4 := g.four
  refine go_forL (ds := (reachL h x).map dN) (u := fun d ρ => ρ.set 2 (.im d)) (Iv := fun i ρ => ∃ s2 s3 s4, ρ = [.im (dH h), .im (dN x), s2, s3, s4, .no] ∧ ∀ y ∈ (reachL h x).take i, HasEx h y) A0 PassesOwn.never rfl (el_call F1 (hr.mono (by decide)) rfl (es_cons (ev_var (i := 0) rfl (.inl rfl) rfl) (es_cons (ev_var (i := 1) rfl (.inl rfl) rfl) es_nil)) rfl ⟨h, x, g, hx, rfl, rfl⟩) (noL_N _) (pg_name (i := 2) sc__law_safe.nd rfl (.inl rfl)) (fun d _ => ra_name 2 d) ⟨.no, .no, .no, rfl, by simp⟩ ?_ ?_
  · rintro γ' i d ρ' σ' H' hd ⟨s2, s3, s4, rfl, I⟩ A2
    rw [List.getElem?_map] at hd
    obtain ⟨y, hy, rfl⟩ := Option.map_eq_some_iff.mp hd
    have hym := List.mem_of_getElem? hy
    have hyl := (mem_reachL.mp hym).1
    refine go_setL A2 3 sc__law_safe.nd rfl (.inl rfl) (el_lst es_nil (by decide)) rfl fun p3 H3 A3 => ?_
    refine go_forL (ds := (reachL h y).map dN) (u := fun d ρ => ρ.set 4 (.im d)) (Iv := fun j ρ => ∃ p s4, ρ = [.im (dH h), .im (dN x), .im (dN y), .ml p ((exR h ((reachL h y).take j)).map dX), s4, .no]) A3 PassesOwn.never rfl (el_call F1 (hr.mono (by decide)) rfl (es_cons (ev_var (i := 0) rfl (.inl rfl) rfl) (es_cons (ev_var (i := 2) rfl (.inl rfl) rfl) es_nil)) rfl ⟨h, y, g, hyl, rfl, rfl⟩) (noL_N _) (pg_name (i := 4) sc__law_safe.nd rfl (.inl rfl)) (fun d _ => ra_name 4 d) ⟨p3, s4, rfl⟩ ?_ ?_
    · rintro γ2 j d2 ρ2 σ2 H4 hd2 ⟨p4, s5, rfl⟩ A4
      rw [List.getElem?_map] at hd2
      obtain ⟨o, ho, rfl⟩ := Option.map_eq_some_iff.mp hd2
      have hol := (mem_reachL.mp (List.mem_of_getElem? ho)).1
      refine go_setL A4 3 sc__law_safe.nd rfl (.inl rfl) (ds := (exR h ((reachL h y).take (j + 1))).map dX) (EVL.cast (el_bin (ev_var (i := 3) rfl (.inl rfl) rfl) (EVL.ev (el_lcT (ns := row h o) (enc := dW) (dec := wayOf) (own := [("way", 5)]) (u := fun d r => r.set 5 (some d)) (sl := [5]) (pt := isX) (f := dW) (fun _ _ => wayOf_d _) rfl sc__law_safe.nd (it_tupS (ev_ix (ev_var (i := 0) rfl (.inl rfl) rfl) (ev_var (i := 4) rfl (.inl rfl) rfl) (ix_T (atI_map (f := dR) (row_some hol))))) (blkOk_by (N := ["house", "hall", "other", "some", "there", "way"]) (sc := defScope s__law_safe) (by decide +kernel)) (fun _ _ _ _ _ => (pg_name (i := 5) sc__law_safe.nd rfl (.inl rfl))) (fun d _ => rg_name 5 _) (by decide) (fun d hd _ _ _ _ _ => ets_one (EVT.cast (et_val (ev_isStr (ev_var (i := 5) rfl (.inl rfl) rfl) rfl T.isinstance rfl T.str)) (isStr_dW d))) (fun d hd hp _ _ _ _ _ => (ev_var (i := 5) rfl (.inl rfl) rfl)) (fun v _ _ => noL_W v) (by have := row_len g o; omega))) (ol_cat ?_)) ?_) (noL_X _) fun p5 H5 A5 => go_nil ⟨_, ⟨p5, _, rfl⟩, A5⟩
      · have h1 := exR_len g ((reachL h y).take j)
        have h2 := row_len g o
        have h3 := List.length_filter_le isX (row h o)
        have h5 := reachL_len h y
        rw [List.length_take] at h1
        rw [List.length_map, List.length_map]
        omega
      · rw [row_ex, take_succ ho]
        unfold exR
        rw [List.flatMap_append, List.map_append]
        simp
    · rintro ρ2 σ2 H4 ⟨p4, s5, rfl⟩ A4
      rw [List.length_map, List.take_length] at A4
      refine go_if A4 (et_cmp (ev_var (i := 3) rfl (.inl rfl) rfl) (EVL.ev (el_lst es_nil (by decide))) (oc_eq hr (sh_mapL (n := 0) (f := dX) (fun c => sh_str (by cases c <;> decide +kernel)) _) (by decide)) (nomark _)) (fun hb H5 A5 => ?_) (fun hb H5 A5 => ?_)
      · rw [show PyData.list [] = .list (([] : List Ex).map dX) from rfl, eqv_mapL eqv_ex, decide_eq_true_iff] at hb
        refine go_ret A5 (EV.cast ev_bl ?_) q
        rw [show safeB h x = false from by
          rw [Bool.eq_false_iff]
          intro sb
          exact (exR_nil g hyl).mp hb (safeB_iff.mp sb y (mem_reachL.mp hym).2)]
      · rw [show PyData.list [] = .list (([] : List Ex).map dX) from rfl, eqv_mapL eqv_ex, decide_eq_false_iff_not] at hb
        refine go_nil (go_nil ⟨_, ⟨_, _, _, rfl, fun y' hy' => ?_⟩, A5⟩)
        rw [take_succ hy] at hy'
        rcases List.mem_append.mp hy' with z | z
        · exact I y' z
        · rw [List.mem_singleton] at z
          subst z
          apply Classical.byContradiction
          intro n
          exact hb ((exR_nil g hyl).mpr n)
  · rintro ρ' σ' H' ⟨s2, s3, s4, rfl, I⟩ A2
    rw [List.length_map, List.take_length] at I
    refine go_ret A2 (EV.cast ev_bl ?_) q
    rw [show safeB h x = true from safeB_iff.mpr fun y r => I y (mem_reachL.mpr ⟨r.lt g hx, r⟩)]
end
end TK

namespace TK
open PySem L2 TH PyProof.Rows
section
variable {P : Program} {w : World} {K : PySem.W.Frag} {mg : Str → Option Value} {base : Heap} {f : Addr} {fd : FuncData}
/-! ### renamed, of an order -/
abbrev zs (o : List Nat) : List Int := o.map fun (n : Nat) => (n : Int)
def sp_renamed (K : PySem.W.Frag) : Sp := fun vs H Q _ => ∃ (v : V) (a : Addr) (h : House) (o : List Nat), vs = [v, .ref a] ∧ Dq K H v (dH h) ∧ GoodH h ∧ IsOrd h.length o ∧ FzI H a (zs o) ∧ ∀ v' H', Same H H' → Dq K H' v' (dH (ren h o)) → Q v' H'
theorem sc_renamed : FnScope ["house", "order", "hall", "found", "way"] ["house", "order"] (defScope s_renamed) := ⟨rfl, rfl, rfl, by decide +kernel, rfl, by decide +kernel, by decide +kernel⟩
theorem ord_sorted {n : Nat} {o : List Nat} (h : IsOrd n o) : ∀ ys : List Int, ys.Perm (zs o) → ys.Pairwise (· ≤ ·) → ys = zs (List.range n) := fun ys pm pw => by
  refine PySem.W.ksm_same (pm.trans (List.Perm.map _ h)) pw ?_
  rw [List.pairwise_map]
  exact List.pairwise_lt_range.imp fun h => by omega
theorem dN_zs (o : List Nat) : o.map dN = (zs o).map PyData.int := by rw [List.map_map]; rfl
theorem idx_zs {o : List Nat} {z : Nat} : (zs o).idxOf (z : Int) = o.idxOf z := by
  induction o with
  | nil => rfl
  | cons a l ih =>
    show ((a : Int) :: zs l).idxOf (z : Int) = _
    rw [List.idxOf_cons, List.idxOf_cons, ih]
    by_cases e : a = z
    · subst e
      simp
    · have e' : ((a : Int) == (z : Int)) = false := by
        rw [beq_eq_false_iff_ne]
        omega
      have e'' : (a == z) = false := by
        rw [beq_eq_false_iff_ne]
        exact e
      rw [e', e'']
theorem useT {X : Cx} {e : Expr} {r : List (Option PyData)} {b : Bool} {σ : L2.St} {H : Hp} {Q : Bool → Hp → Prop} (h : EVT X e r b) (E : EnvD X.K H σ r) (q : ∀ H', Same H H' → Q b H') : tT X e σ H Q := h.use E q
theorem fd_renamed (L : Lnk K mg "renamed" s_renamed ["house", "order"]) (T : Bts mg) (F1 : FnD P w K mg base 4 "check_house" (spR K 1 r_check_house)) (F2 : FnD P w K mg base 1 "is_between" (spR K 3 r_is_between)) : FnD P w K mg base 5 "renamed" (sp_renamed K) := L.fnD fun f fd F => by
  refine Fun.okG F sc_renamed (fun vs H Q E ⟨_, _, _, _, h, _⟩ => by rw [h]; rfl) ?_
  rintro cdv A outer s H vs Q E hr ⟨v, a, h, o, rfl, dv, g, ho, fz, q⟩
  have A0 := At.start (N := ["house", "order", "hall", "found", "way"]) (K := K) (H := H) (vs := [v, .ref a]) (ds := [dH h, .tuple (o.map dN)]) (.cons dv (.cons (by rw [dN_zs]; exact fz.dq) .nil)) (by simp)
  have A00 := A0.fix (i := 1) rfl rfl
  have h4 := g.four
  have hol := ho.len
  refine go_expr A00 (ev_call F1 (hr.mono (by decide)) rfl (es_cons (ev_var (i := 0) rfl (.inr (.inl rfl)) rfl) es_nil) rfl ⟨h, g, rfl, rfl⟩) fun H1 A1 => ?_
  refine go_ifF A1 (EVT.cast (EVW.t (ew_or (et_not (et_val (ev_isTuple (ev_var (i := 1) rfl (.inr (.inl rfl)) rfl) rfl T.isinstance rfl T.tuple))) fun _ => (ew_or1 (et_not (et_val (ev_callB (ca_all rfl) rfl T.all (by decide +kernel) (es_cons (EVL.ev (EVL.cast (el_mapT (ns := o) (enc := dN) (dec := natOf) (own := [("hall", 2)]) (u := fun d r => r.set 2 (some d)) (sl := [2]) (f := fun y => .bool (isBtw (dN y) 0 ((h.map dR).length - 1))) (fun _ _ => natOf_d _) rfl sc_renamed.nd (it_tupS (ev_var (i := 1) rfl (.inr (.inl rfl)) rfl)) (blkOk_by (N := ["house", "order", "hall", "found", "way"]) (sc := defScope s_renamed) (by decide +kernel)) (fun _ _ _ _ _ => (pg_name (i := 2) sc_renamed.nd rfl (.inl rfl))) (fun d _ => rg_name 2 _) (by decide) (fun d hd _ _ _ _ _ => (ev_call F2 (hr.mono (by decide)) rfl (es_cons (ev_var (i := 2) rfl (.inl rfl) rfl) (es_cons ev_int (es_cons (ev_bin (ev_callB ca_lenT rfl T.len (by decide +kernel) (es_cons (ev_var (i := 0) rfl (.inr (.inl rfl)) rfl) es_nil)) ev_int od_sub) es_nil))) rfl ⟨_, _, _, rfl, rfl⟩)) (fun _ _ => rfl) (by omega)) (List.map_map (f := fun y => isBtw (dN y) 0 ((h.map dR).length - 1)) (g := PyData.bool)).symm)) es_nil))))))) ?_) fun H2 A2 => ?_
  · have e : ((o.map fun y => isBtw (dN y) 0 ((h.map dR).length - 1)).all fun q => q) = true := by
      rw [List.all_eq_true]
      intro b hb
      obtain ⟨y, hy, rfl⟩ := List.mem_map.mp hb
      have := ho.mem.mp hy
      show (decide ((0 : Int) ≤ (y : Int)) && decide ((y : Int) ≤ ((h.map dR).length : Int) - 1)) = true
      rw [List.length_map, decide_eq_true (by omega), decide_eq_true (by omega)]
      rfl
    rw [e]
    rfl
  refine go_ifF A2 (EVT.cast (et_cmp (EVL.ev (el_callB (cl_sortedT (xs := zs o) (zs := zs (List.range h.length)) (by rw [List.length_map]; omega) (ord_sorted ho)) rfl T.sorted (by decide +kernel) (es_cons (EV.cast (ev_var (i := 1) rfl (.inr (.inl rfl)) rfl) (by rw [dN_zs])) es_nil))) (EVL.ev (el_listRg (n := h.length) rfl rfl T.list rfl T.range (EV.cast (ev_callB ca_lenT rfl T.len (by decide +kernel) (es_cons (ev_var (i := 0) rfl (.inr (.inl rfl)) rfl) es_nil)) (by rw [List.length_map])) (by omega))) (oc_ne hr (sh_mapL (n := 0) sh_int _) (sh_mapL (n := 0) (f := dN) (fun _ => sh_int _) (List.range h.length))) (nomark _)) ?_) fun H3 A3 => ?_
  · rw [← dN_zs, rgD_eq, eqv_mapL eqv_nat]
    simp
  refine go_setL A3 3 sc_renamed.nd rfl (.inl rfl) (el_lst es_nil (by decide)) rfl fun p3 H4 A4 => ?_
  refine go_for (ds := o.map dN) (u := fun d ρ => ρ.set 2 (.im d)) (Iv := fun i ρ => ∃ p s2, ρ = [.im (dH h), .fx (.ref a) (.tuple (o.map dN)), s2, .ml p (((o.take i).map fun y => (row h y).map (renW o)).map dR), .no]) A4 PassesOwn.never rfl (ev_var (i := 1) rfl (.inr (.inl rfl)) rfl) (noL_N o) (pg_name (i := 2) sc_renamed.nd rfl (.inl rfl)) (fun d _ => ra_name 2 d) ⟨p3, .no, rfl⟩ ?_ ?_
  · rintro γ' i d ρ' σ' H' hd ⟨p, s2, rfl⟩ A5
    rw [List.getElem?_map] at hd
    obtain ⟨y, hy, rfl⟩ := Option.map_eq_some_iff.mp hd
    have hyl := ho.mem.mp (List.mem_of_getElem? hy)
    refine go_appendH A5 3 rfl rfl (.inl rfl) (d := dR ((row h y).map (renW o))) (evh_tup (fun Q q => rd_of (pe_lcP (own := [("way", 4)]) rfl sc_renamed.nd (blkOk_by (N := ["house", "order", "hall", "found", "way"]) (sc := defScope s_renamed) (by decide +kernel)) (fun _ _ _ _ _ => (pg_name (i := 4) sc_renamed.nd rfl (.inl rfl)))) (lc_readP (Φ := fun H => FzI H a (zs o)) (ds := (row h y).map dW) (u := fun d r => r.set 4 (some d)) (sl := [4]) (f := fun d => dW (renW o (wayOf d))) (fun H H' e h => h.same e) (it_tupS (ev_ix (ev_var (i := 0) rfl (.inr (.inl rfl)) rfl) (ev_var (i := 2) rfl (.inl rfl) rfl) (ix_T (atI_map (f := dR) (row_some hyl))))) (fun d _ => rg_name 4 _) (by decide) ?_ (fun _ _ => noL_W _) (by rw [List.length_map]; have := row_len g y; omega) A5.envD (fz.same A5.same) fun v H' hv => q v H' ?_)) rfl T.tuple) (noL_R _) (by simp; omega) fun H6 A6 => go_nil ⟨_, ⟨p, .im (dN y), ?_⟩, A6⟩
    · intro d hd σ2 H5 fz5 hw E5 Q2 q2 s1 H0 C cl fp
      obtain ⟨wy, hwy, rfl⟩ := List.mem_map.mp hd
      refine rd_of (pe_ifExp pt_any pe_any (pe_tix (pe_var (i := 1) rfl (.inr (.inl rfl))) (pa_cons (pe_var (i := 4) rfl (.inl rfl)) pa_nil))) ?_
      have hσ1 : σ2[1]? = some (some (.ref a)) := by
        have h1 := congrArg (fun l => l[1]?) hw
        rw [wipe_out (by decide), wipe_out (by decide), A5.valF (i := 1) rfl] at h1
        exact h1
      obtain ⟨v4, s4, d4⟩ := E5.get 4 (dW wy) rfl
      refine useT ?_ E5 ?_ (b := isStrD (dW wy)) 
      · exact et_val (ev_isStr (ev_var (i := 4) rfl (.inl rfl) rfl) rfl T.isinstance rfl T.str)
      intro H6 e6
      have e1 := wayOf_d wy
      cases wy with
      | x c =>
        refine iteT ?_
        show tE _ _ σ2 H6 _
        refine EV.use (ev_var (i := 4) rfl (.inl rfl) rfl) (E5.same e6) fun v H7 e7 d7 => q2 v H7 (e6.trans e7) ?_
        rw [e1]
        exact d7
      | h z =>
        refine iteF ?_
        cases d4
        refine ⟨_, hσ1, a, zs o, rfl, fz5.same e6, _, s4, fz5.same e6, _, rfl, List.mem_map.mpr ⟨z, ho.mem.mpr (g.ways _ (row_mem hyl) z hwy), rfl⟩, q2 _ _ e6 ?_⟩
        rw [e1, idx_zs]
        exact .int _
    · rw [List.map_map] at hv ⊢
      have e : (fun d => dW (renW o (wayOf d))) ∘ dW = dW ∘ renW o := funext fun v => by
        show dW (renW o (wayOf (dW v))) = dW (renW o v)
        rw [wayOf_d]
      rw [e] at hv
      exact hv
    · rw [take_succ hy]
      simp
  · rintro ρ' σ' H' ⟨p, s2, rfl⟩ A5
    rw [List.length_map, List.take_length] at A5
    exact go_ret A5 (ev_callTy ca_tupleL rfl T.tuple (by decide +kernel) (es_cons (ev_var (i := 3) rfl (.inl rfl) rfl) es_nil)) q
end
end TK

namespace TK
open PySem L2 TH PyProof.Rows
section
variable {P : Program} {w : World} {K : PySem.W.Frag} {mg : Str → Option Value} {base : Heap} {f : Addr} {fd : FuncData}
theorem evh_renamed {X : Cx} {a b : Expr} {σ : L2.St} {H : Hp} {h : House} {o : List Nat} {lv : Nat} {p pos : Pos} (F : FnD X.prog X.w X.K X.mg X.base lv "renamed" (sp_renamed X.K)) (hr : Room lv X.A) (hg : Gl X "renamed") (g : GoodH h) (ho : IsOrd h.length o) (ha : EVH X a σ H (dH h)) (hb : ∀ H1, Same H H1 → EVFH X b σ H1 (zs o))
    (he : starEach [a, b] X.env = (false, eval a X.env) :: starEach [b] X.env := by rfl) (he2 : starEach [b] X.env = (false, eval b X.env) :: starEach [] X.env := by rfl) (hpl : (backTo pos (starEach [b] X.env)).any (·.1) = false := by rfl) : EVH X (.Call (.Name "renamed" p) [a, b] [] pos) σ H (dH (ren h o)) := fun Q q => by
  obtain ⟨ff, fd, ps, g1, g2, g3, g4⟩ := F.ex
  exact rd_of (pe_call g4 hr hg g1 g2 g3 .nil pass0 (pa_cons pe_any (pa_cons pe_any pa_nil he2) he) (by decide) he hpl) (ha _ fun v H1 e1 dv => hb H1 e1 _ fun l H2 e2 fz => ⟨v, l, h, o, rfl, dp_same e2 dv, g, ho, fz, fun v' H' e3 d3 => q v' H' ((e1.trans e2).trans e3) d3⟩)
def sp_law (K : PySem.W.Frag) : Sp := fun vs H Q _ => ∃ (a : Addr) (ss : List Int), vs = [.ref a] ∧ ss.length ≤ 63 ∧ SqL K H a (ss.map V.int) ∧ ∀ H', Q (.bl true) H'
abbrev NL : List Str := ["script", "town", "house", "size", "hall", "due", "rest", "order", "other", "k", "one", "two", "some", "back"]
theorem sc_law : FnScope NL ["script"] (defScope s_law) := ⟨rfl, rfl, rfl, by decide +kernel, rfl, by decide +kernel, by decide +kernel⟩
theorem eqvT_self {α : Type} [DecidableEq α] {f : α → PyData} (h : ∀ a b, PyData.eqv (f a) (f b) = decide (a = b)) (l : List α) : (!PyData.eqv (.tuple (l.map f)) (.tuple (l.map f))) = false := by
  rw [eqv_mapT h]
  simp
theorem sh_X (l : List Ex) : SeqAt.shaped (.tuple (l.map dX)) = true := sh_mapT (n := 0) (f := dX) (fun c => sh_str (by cases c <;> decide +kernel)) l
theorem sh_Ns (l : List Nat) : SeqAt.shaped (.tuple (l.map dN)) = true := sh_mapT (n := 0) (f := dN) (fun _ => sh_int _) l
theorem useL {X : Cx} {e : Expr} {r : List (Option PyData)} {ds : List PyData} {σ : L2.St} {H : Hp} {Q : VK} (h : EVL X e r ds) (E : EnvD X.K H σ r) (q : ∀ p vs H', H p = none → Same H H' → H' p = some (.lst vs) → DqAll X.K H' vs ds → Q (.ref p) H') : tE X e σ H Q := h.use E q
/-- two names from a pair -/
def u2 (i j : Nat) (d : PyData) (ρ : List Sl) : List Sl := match d with
  | .tuple [x, y] => (ρ.set i (.im x)).set j (.im y)
  | _ => ρ
theorem ra_u2 {K : PySem.W.Frag} {i j : Nat} {ds es : List PyData} {d : PyData} (h : d ∈ zD ds es) : RdA K (gTup K 2 (gCons (gName i) (gCons (gName j) gNil))) d (u2 i j d) := by
  obtain ⟨k, hk, e⟩ := List.getElem_of_mem h
  rw [List.getElem_zipWith] at e
  subst e
  exact ra_two i j _ _
theorem any_nat (l : List Nat) (k : Nat) : ((l.map dN).any fun y => PyData.eqv y (dN k)) = decide (k ∈ l) := by
  rw [Bool.eq_iff_iff, List.any_eq_true, decide_eq_true_iff]
  constructor
  · rintro ⟨y, hy, hq⟩
    obtain ⟨m, hm, rfl⟩ := List.mem_map.mp hy
    rw [eqv_nat, decide_eq_true_iff] at hq
    subst hq
    exact hm
  · intro hz
    exact ⟨dN k, List.mem_map.mpr ⟨k, hz, rfl⟩, by rw [eqv_nat]; simp⟩
theorem ix_at {n : Nat} {o : List Nat} (ho : IsOrd n o) {k : Nat} (hk : k < n) : (o.map dN)[o.idxOf k]? = some (dN k) := by
  rw [List.getElem?_map, oAt_some (by rw [ho.len]; exact idx_lt ho hk), oAt_idx ho hk]
  rfl
theorem ix_no (o : List Nat) (k : Nat) : ∀ (m : Nat) (y : PyData), m < o.idxOf k → (o.map dN)[m]? = some y → PyData.eqv y (dN k) = false := by
  intro m y hm hy
  rw [List.getElem?_map] at hy
  obtain ⟨x, hx, rfl⟩ := Option.map_eq_some_iff.mp hy
  rw [eqv_nat, decide_eq_false_iff_not]
  rintro rfl
  have := idx_le hx
  omega
theorem ok_law (T : Bts mg) (Ft : FnD P w K mg base 1 "_law_town" (sp_town K)) (Fd : FnD P w K mg base 1 "_law_draw" (spT K 1 pr_draw r_draw)) (Fh : FnD P w K mg base 3 "_law_house" (spT K 40 pr_house r_house))
    (Fe : FnD P w K mg base 5 "exits" (spR K 1 r_exits)) (Fle : FnD P w K mg base 1 "_law_exits" (spL K 1 r_law_exits)) (Fi : FnD P w K mg base 3 "is_house" (spR K 1 r_is_house)) (Fr : FnD P w K mg base 5 "reached" (spR K 2 r_reached)) (Flr : FnD P w K mg base 1 "_law_reach" (spL K 2 r_law_reach)) (Fls : FnD P w K mg base 2 "_law_safe" (spR K 2 r_law_safe)) (Fs : FnD P w K mg base 5 "safe_halls" (spR K 1 r_safe_halls)) (Fn : FnD P w K mg base 5 "renamed" (sp_renamed K)) :
    ∀ f fd, Fun K "law" "law" s_law f fd → FnOk P w K mg base CX0 6 f fd ["script"] (sp_law K) := fun f fd F => by
  refine Fun.okG F sc_law (fun vs H Q E ⟨_, _, h, _⟩ => by rw [h]; rfl) ?_
  rintro cdv A outer s H vs Q E hr ⟨sa, ss, rfl, hss, hS, q0⟩
  have q : ∀ v H', Same H H' → Dq K H' v (.bool true) → Q v H' := fun v H' _ dv => by
    cases dv
    exact q0 H'
  have A0 := startS 13 hS
  have l2 : ∀ {a b c d e f g h i j k l m n : Sl}, 1 < [a, b, c, d, e, f, g, h, i, j, k, l, m, n].length := by intros; show 1 < 14; decide
  refine go_setLH A0 1 sc_law.nd rfl (.inl rfl) (evl_town Ft (hr.mono (by decide)) rfl A0 (i := 0) rfl hss rfl (.inl rfl)) ?_ fun t H1 A1 => ?_
  · exact Tw.noL (n := ss.length) (c := 0) ⟨0, ss, Nat.le_refl _, rfl, rfl⟩
  have tw1 : Tw ss.length 0 (.int 0 :: ss.map .int) := ⟨0, ss, Nat.le_refl _, rfl, rfl⟩
  -- house
  refine go_setX (n := ss.length) (c := 0) (i := 1) (ρ := [.sc sa ss, .no, .no, .no, .no, .no, .no, .no, .no, .no, .no, .no, .no, .no]) A1 tw1 (k := 40) (by decide) 2 sc_law.nd rfl (.inr rfl) (ex_callT (j := 0) Fh (hr.mono (by decide)) rfl l2 rfl rfl hss (by decide) rfl (.inl rfl) rfl (.inl rfl) (ea_ev (d := dN 4) ev_int rfl l2) (fun d hd => ⟨4, by omega, by omega, hd⟩)) ?_
  rintro v2 y2 ds2 H2 ⟨z2, rfl, d2, hd2, m2, h, hm2, g, hl2, rfl⟩ tw2 A2
  clear hm2 hd2 hl2
  have h4 := g.four
  have h1 := g.one
  refine go_set A2 3 sc_law.nd rfl (.inl rfl) (d := dN h.length) (EV.cast (ev_callB ca_lenT rfl T.len (by decide +kernel) (es_cons (ev_var (i := 2) rfl (.inr (.inl rfl)) rfl) es_nil)) (by rw [List.length_map])) rfl fun p3 H3 A3 => ?_
  refine go_ifF A3 (EVT.cast (EVW.t (ew_or (et_cmp (ev_call Fe (hr.mono (by decide)) rfl (es_cons (ev_var (i := 2) rfl (.inr (.inl rfl)) rfl) es_nil) rfl ⟨h, g, rfl, rfl⟩) (ev_callTy ca_tupleL rfl T.tuple (by decide +kernel) (es_cons (EVL.ev (el_call Fle (hr.mono (by decide)) rfl (es_cons (ev_var (i := 2) rfl (.inr (.inl rfl)) rfl) es_nil) rfl ⟨h, g, rfl, rfl⟩)) es_nil)) (oc_ne hr (sh_X _) (sh_X _)) (nomark _)) fun _ => (ew_or1 (et_cmp (ev_call Fi (hr.mono (by decide)) rfl (es_cons (ev_var (i := 2) rfl (.inr (.inl rfl)) rfl) es_nil) rfl (house_isR g)) ev_bl oc_notB (nomark _))))) ?_) fun H4 A4 => ?_
  · rw [eqvT_self eqv_ex]
    rfl
  -- for hall in range(size)
  refine go_forR (n := h.length) (u := fun d ρ => ρ.set 4 (.im d)) (Iv := fun i ρ => ∃ s4, ρ = [.sc sa ss, .ml t ds2, .im (dH h), .im (dN h.length), s4, .no, .no, .no, .no, .no, .no, .no, .no, .no]) A4 PassesOwn.never rfl (es_cons (ev_var (i := 3) rfl (.inl rfl) rfl) es_nil) (by omega) rfl T.range (pg_name (i := 4) sc_law.nd rfl (.inl rfl)) (fun d _ => ra_name 4 d) ⟨.no, rfl⟩ ?_ ?_
  · rintro i ρ' σ' H' hi ⟨s4, rfl⟩ A5
    refine go_ifF A5 (EVT.cast (et_cmp (ev_call Fr (hr.mono (by decide)) rfl (es_cons (ev_var (i := 2) rfl (.inr (.inl rfl)) rfl) (es_cons (ev_var (i := 4) rfl (.inl rfl) rfl) es_nil)) rfl ⟨h, i, g, hi, rfl, rfl⟩) (ev_callTy ca_tupleL rfl T.tuple (by decide +kernel) (es_cons (EVL.ev (el_call Flr (hr.mono (by decide)) rfl (es_cons (ev_var (i := 2) rfl (.inr (.inl rfl)) rfl) (es_cons (ev_var (i := 4) rfl (.inl rfl) rfl) es_nil)) rfl ⟨h, i, g, hi, rfl, rfl⟩)) es_nil)) (oc_ne hr (sh_Ns _) (sh_Ns _)) (nomark _)) ?_) fun H5 A6 => go_nil ⟨_, ⟨_, rfl⟩, A6⟩
    exact eqvT_self eqv_nat _
  rintro ρ5 σ5 H5 ⟨s4, rfl⟩ A5
  -- due
  refine go_set A5 5 sc_law.nd rfl (.inl rfl) (d := .tuple ((safeL h).map dN)) (ev_callTy ca_tupleL rfl T.tuple (by decide +kernel) (es_cons (EVL.ev (el_lcT (ns := List.range h.length) (enc := dN) (dec := natOf) (own := [("hall", 4)]) (u := fun d r => r.set 4 (some d)) (sl := [4]) (pt := safeB h) (f := dN) (fun _ _ => natOf_d _) rfl sc_law.nd (ITR.same (it_range (n := h.length) (es_cons (ev_var (i := 3) rfl (.inl rfl) rfl) es_nil) (by omega) rfl T.range)) (blkOk_by (N := NL) (sc := defScope s_law) (by decide +kernel)) (fun _ _ _ _ _ => (pg_name (i := 4) sc_law.nd rfl (.inl rfl))) (fun d _ => rg_name 4 _) (by decide) (fun d hd _ _ _ _ _ => ets_one (et_val (ev_call Fls (hr.mono (by decide)) rfl (es_cons (ev_var (i := 2) rfl (.inr (.inl rfl)) rfl) (es_cons (ev_var (i := 4) rfl (.inl rfl) rfl) es_nil)) rfl ⟨h, d, g, List.mem_range.mp hd, rfl, rfl⟩))) (fun d hd hp _ _ _ _ _ => (ev_var (i := 4) rfl (.inl rfl) rfl)) (fun _ _ _ => rfl) (by rw [List.length_range]; omega))) es_nil)) (noL_N _) fun p6 H6 A6 => ?_
  refine go_ifF A6 (EVT.cast (et_cmp (ev_call Fs (hr.mono (by decide)) rfl (es_cons (ev_var (i := 2) rfl (.inr (.inl rfl)) rfl) es_nil) rfl ⟨h, g, rfl, rfl⟩) (ev_var (i := 5) rfl (.inl rfl) rfl) (oc_ne hr (sh_Ns _) (sh_Ns _)) (nomark _)) (eqvT_self eqv_nat _)) fun H7 A7 => ?_
  -- rest, order = (list(range(size)), [])
  refine go_cons (ps_asg (pe_tup (pa_cons pe_any (pa_cons pe_any pa_nil))) (pg_tup rfl (pgs_cons (pg_name (i := 6) sc_law.nd rfl (.inl rfl)) (pgs_cons (pg_name (i := 7) sc_law.nd rfl (.inr rfl)) pgs_nil))) (by rfl) (by rfl) (by rfl)) ?_
  show tE _ _ _ H7 _
  refine useL ?_ A7.envD ?_ (ds := rgD h.length)
  · exact el_listRg rfl rfl T.list rfl T.range (ev_var (i := 3) rfl (.inl rfl) rfl) (by omega)
  rintro p7 vs7 H8 e0 e1 e2 dv7
  have A8 := A7.addN (x := .ml p7 (rgD h.length)) e0 e1 rfl ⟨rfl, A7.same.free e0, noL_rg _, vs7, e2, dv7⟩
  show tE _ _ _ H8 _
  refine useL ?_ A8.envD ?_ (ds := [])
  · exact el_lst es_nil (by decide)
  rintro p8 vs8 H9 e0' e1' e2' dv8
  have A9 := (A8.addN (x := .ml p8 []) e0' e1' rfl ⟨rfl, A8.same.free e0', rfl, vs8, e2', dv8⟩)
  refine ⟨(show 2 ≤ sizeLine by decide), fun pt hpt => ?_⟩
  refine ⟨pt, _, rfl, .inl (.inl upd_same), rfl, _, _, rfl, _, _, rfl, rfl, ?_⟩
  have A10 := At.take (At.take (A9.to (same_new (o := .tup [.ref p7, .ref p8]) hpt)) 7) 6
  rw [List.set_comm _ _ (by decide)] at A10
  -- while rest != []
  refine go_while (Jv := fun ρ => ∃ (ds : List PyData) (re or : List Nat), Tw ss.length (40 + or.length) ds ∧ (re ++ or).Perm (List.range h.length) ∧ ρ = [.sc sa ss, .ml t ds, .im (dH h), .im (dN h.length), s4, .im (.tuple ((safeL h).map dN)), .ml p7 (re.map dN), .ml p8 (or.map dN), .no, .no, .no, .no, .no, .no]) (fun ρ => match ρ with
    | [_, _, _, _, _, _, .ml _ l, _, _, _, _, _, _, _] => l.length
    | _ => 0) A10 PassesOwn.never ⟨ds2, List.range h.length, [], tw2, by simp, rfl⟩ ?_
  rintro ρ11 σ11 H11 ⟨ds11, re, or, tw11, pm, rfl⟩ A11
  have hlen : re.length + or.length = h.length := by
    have := pm.length_eq
    rw [List.length_append, List.length_range] at this
    exact this
  refine ⟨_, et_cmp (ev_var (i := 6) rfl (.inl rfl) rfl) (EVL.ev (el_lst es_nil (by decide))) (oc_ne hr (sh_mapL (n := 0) (f := dN) (fun _ => sh_int _) re) (by decide)) (nomark _), fun hb H12 A12 => ?_, fun hb H12 A12 => ?_⟩
  · have hre : re ≠ [] := by
      rintro rfl
      simp [PyData.eqv, PyData.eqvAll] at hb
    have hrl : 0 < re.length := List.length_pos_iff.mpr hre
    refine go_appPop (n := ss.length) (i := 1) (j := 7) (l := 6) (ρ := [.sc sa ss, .no, .im (dH h), .im (dN h.length), s4, .im (.tuple ((safeL h).map dN)), .ml p7 (re.map dN), .ml p8 (or.map dN), .no, .no, .no, .no, .no, .no]) (k := 1) A12 tw11 (by omega) rfl rfl (by decide) (by decide) (by decide) rfl (.inr (.inl rfl)) rfl (.inl rfl) (ex_callT (j := 0) Fd (hr.mono (by decide)) rfl l2 rfl rfl hss (by decide) rfl (.inl rfl) rfl (.inl rfl) (ea_ev (d := dN re.length) (EV.cast (ev_callB ca_lenL rfl T.len (by decide +kernel) (es_cons (ev_var (i := 6) rfl (.inl rfl) rfl) es_nil)) (by rw [List.length_map])) rfl l2) (fun d hd => ⟨re.length, hrl, by omega, hd⟩)) ?_ (by rw [List.length_map]; omega) (by rw [List.length_map]; omega) ?_
    · intro y hy
      obtain ⟨k, hk, rfl⟩ := cr_draw hy
      exact ⟨k, by rw [List.length_map]; exact hk, rfl⟩
    · rintro m z ds13 H13 hz tw13 A13
      rw [List.getElem?_map] at hz
      obtain ⟨x, hx, rfl⟩ := Option.map_eq_some_iff.mp hz
      have hm := (List.getElem?_eq_some_iff.mp hx).1
      refine go_nil ⟨_, ⟨⟨ds13, re.eraseIdx m, or ++ [x], by rw [List.length_append]; exact tw13, ?_, ?_⟩, ?_⟩, A13⟩
      · obtain ⟨hm', ex⟩ := List.getElem?_eq_some_iff.mp hx
        have p1 := erase_perm hx
        refine List.Perm.trans ?_ pm
        rw [← List.append_assoc]
        refine (List.perm_append_singleton x _).trans ?_
        rw [← List.cons_append]
        exact p1.append_right or
      · simp only [erase_map, List.map_append]
        rfl
      · show ((re.map dN).eraseIdx m).length < (re.map dN).length
        rw [List.length_eraseIdx, if_pos (by rw [List.length_map]; exact hm), List.length_map]
        omega
  · have hre : re = [] := by
      rw [show PyData.list [] = .list (([] : List Nat).map dN) from rfl, eqv_mapL eqv_nat] at hb
      simpa using hb
    subst hre
    have ho : IsOrd h.length or := pm
    have hol := ho.len
    have g' := ren_good g ho
    have hl' : (ren h or).length = h.length := by rw [ren_len, hol]
    -- other = renamed(house, tuple(order))
    refine go_setH A12 8 sc_law.nd rfl (.inl rfl) (d := dH (ren h or)) (evh_renamed Fn (hr.mono (by decide)) rfl g ho (EV.h (ev_var (i := 2) rfl (.inr (.inl rfl)) rfl) A12.envD) fun H1 e1 => evf_tup (EVH.cast (EV.h (ev_var (i := 7) rfl (.inr (.inl rfl)) rfl) (A12.to e1).envD) (by rw [dN_zs])) rfl T.tuple) (noL_H _) fun p13 H13 A13 => ?_
    refine go_ifF A13 (EVT.cast (EVW.t (ew_or (et_cmp (ev_call Fi (hr.mono (by decide)) rfl (es_cons (ev_var (i := 8) rfl (.inl rfl) rfl) es_nil) rfl (house_isR g')) ev_bl oc_notB (nomark _)) fun _ => (ew_or1 (et_cmp (ev_call Fe (hr.mono (by decide)) rfl (es_cons (ev_var (i := 8) rfl (.inl rfl) rfl) es_nil) rfl ⟨ren h or, g', rfl, rfl⟩) (ev_call Fe (hr.mono (by decide)) rfl (es_cons (ev_var (i := 2) rfl (.inr (.inl rfl)) rfl) es_nil) rfl ⟨h, g, rfl, rfl⟩) (oc_ne hr (sh_X _) (sh_X _)) (nomark _))))) (by rw [ren_exits ho, eqvT_self eqv_ex]; rfl)) fun H14 A14 => ?_
    -- for k in range(size)
    refine go_forR (n := h.length) (u := fun d ρ => ρ.set 9 (.im d)) (Iv := fun i ρ => ∃ s9 s10 s11 s12, ρ = [.sc sa ss, .ml t ds11, .im (dH h), .im (dN h.length), s4, .im (.tuple ((safeL h).map dN)), .ml p7 [], .ml p8 (or.map dN), .im (dH (ren h or)), s9, s10, s11, s12, .no]) A14 PassesOwn.never rfl (es_cons (ev_var (i := 3) rfl (.inl rfl) rfl) es_nil) (by omega) rfl T.range (pg_name (i := 9) sc_law.nd rfl (.inl rfl)) (fun d _ => ra_name 9 d) ⟨.no, .no, .no, .no, rfl⟩ ?_ ?_
    · rintro i ρ' σ' H' hi ⟨s9, s10, s11, s12, rfl⟩ A15
      have hok := oAt_lt ho hi
      have e1 : (ren h or)[i]? = some ((row h (oAt or i)).map (renW or)) := by rw [row_some (by omega), ren_row (by omega)]
      have ixo : atI (or.map dN) (i : Int) = some (dN (oAt or i)) := atI_map (f := dN) (oAt_some (by omega))
      refine go_forZ (ds := ((row h (oAt or i)).map (renW or)).map dW) (es := (row h (oAt or i)).map dW) (u := u2 10 11) (Iv := fun j ρ => ∃ s10 s11, ρ = [.sc sa ss, .ml t ds11, .im (dH h), .im (dN h.length), s4, .im (.tuple ((safeL h).map dN)), .ml p7 [], .ml p8 (or.map dN), .im (dH (ren h or)), .im (dN i), s10, s11, s12, .no]) A15 PassesOwn.never rfl (es_cons (ev_ix (ev_var (i := 8) rfl (.inl rfl) rfl) (ev_var (i := 9) rfl (.inl rfl) rfl) (ix_T (atI_map (f := dR) e1))) (es_cons (ev_ix (ev_var (i := 2) rfl (.inr (.inl rfl)) rfl) (ev_ix (ev_var (i := 7) rfl (.inr (.inl rfl)) rfl) (ev_var (i := 9) rfl (.inl rfl) rfl) (ix_L ixo)) (ix_T (atI_map (f := dR) (row_some hok)))) es_nil)) (noLs_map noL_W _) (noLs_map noL_W _) rfl T.zip (pg_tup rfl (pgs_cons (pg_name (i := 10) sc_law.nd rfl (.inl rfl)) (pgs_cons (pg_name (i := 11) sc_law.nd rfl (.inl rfl)) pgs_nil))) (fun d hd => ra_u2 hd) ⟨s10, s11, rfl⟩ ?_ ?_
      · rintro γ' j d ρ2 σ2 H2 hd ⟨s10, s11, rfl⟩ A16
        rw [List.getElem?_zipWith, List.getElem?_map, List.getElem?_map, List.getElem?_map] at hd
        cases hv : (row h (oAt or i))[j]? with
        | none => rw [hv] at hd; cases hd
        | some v =>
          rw [hv] at hd
          cases hd
          have hvm := List.mem_of_getElem? hv
          refine go_ifF A16 (EVT.cast (et_cmp (d := dW v) (ev_if (et_val (ev_isStr (ev_var (i := 10) rfl (.inl rfl) rfl) rfl T.isinstance rfl T.str)) (fun hs => ?_) (fun hs => ?_)) (ev_var (i := 11) rfl (.inl rfl) rfl) (oc_ne hr ((sh_W v).shaped (by decide)) ((sh_W v).shaped (by decide))) (nomark _)) (by rw [eqv_W]; simp)) fun H3 A17 => go_nil ⟨_, ⟨_, _, rfl⟩, A17⟩
          · cases v with
            | x c => exact ev_var (i := 10) rfl (.inl rfl) rfl
            | h z => cases hs
          · cases v with
            | x c => cases hs
            | h z =>
              have hz := g.ways _ (row_mem hok) z hvm
              refine ev_ix (ev_var (i := 7) rfl (.inr (.inl rfl)) rfl) (ev_var (i := 10) rfl (.inl rfl) rfl) (ix_L (atI_map (f := dN) (a := z) ?_))
              rw [oAt_some (by rw [hol]; exact idx_lt ho hz), oAt_idx ho hz]
      · rintro ρ2 σ2 H2 ⟨s10, s11, rfl⟩ A16
        -- some
        refine go_setL A16 12 sc_law.nd rfl (.inl rfl) (ds := (reachL h (oAt or i)).map dN) (EVL.cast (el_callB (cl_sortedI (xs := zs ((reachL (ren h or) i).map (oAt or))) (zs := zs (reachL h (oAt or i))) ?_ ?_) rfl T.sorted (by decide +kernel) (es_cons (EVL.ev (EVL.cast (el_mapT (ns := reachL (ren h or) i) (enc := dN) (dec := natOf) (own := [("hall", 4)]) (u := fun d r => r.set 4 (some d)) (sl := [4]) (f := fun y => dN (oAt or y)) (fun _ _ => natOf_d _) rfl sc_law.nd (it_tupS (ev_call Fr (hr.mono (by decide)) rfl (es_cons (ev_var (i := 8) rfl (.inl rfl) rfl) (es_cons (ev_var (i := 9) rfl (.inl rfl) rfl) es_nil)) rfl ⟨ren h or, i, g', by omega, rfl, rfl⟩)) (blkOk_by (N := NL) (sc := defScope s_law) (by decide +kernel)) (fun _ _ _ _ _ => (pg_name (i := 4) sc_law.nd rfl (.inl rfl))) (fun d _ => rg_name 4 _) (by decide) (fun y hy _ _ _ _ _ => (ev_ix (ev_var (i := 7) rfl (.inr (.inl rfl)) rfl) (ev_var (i := 4) rfl (.inl rfl) rfl) (ix_L (atI_map (f := dN) (oAt_some (by have := (mem_reachL.mp hy).1; omega)))))) (fun _ _ => rfl) (by have := reachL_len (ren h or) i; omega)) (by rw [List.map_map, List.map_map]; rfl))) es_nil)) (dN_zs _).symm) (noL_N _) fun p16 H16 A17 => ?_
        · have := reachL_len (ren h or) i
          rw [List.length_map, List.length_map]
          omega
        · intro ys py pw
          have nz : (reachL h (oAt or i)).Nodup := (reachL_pw h _).imp fun h => by omega
          have nz' : ((reachL (ren h or) i).map (oAt or)).Nodup := by
            refine List.pairwise_map.mpr (((reachL_pw (ren h or) i).imp fun h => Nat.ne_of_lt h).imp_of_mem fun {a b} ha hb hne e => hne ?_)
            have a1 := (mem_reachL.mp ha).1
            have b1 := (mem_reachL.mp hb).1
            rw [← idx_oAt ho (show a < h.length by omega), ← idx_oAt ho (show b < h.length by omega), e]
          have pm2 : ((reachL (ren h or) i).map (oAt or)).Perm (reachL h (oAt or i)) := perm_of_mem nz' nz fun k => by
            rw [List.mem_map, mem_reachL]
            constructor
            · rintro ⟨y, hy, rfl⟩
              obtain ⟨_, r⟩ := mem_reachL.mp hy
              obtain ⟨h1, h2⟩ := (ren_rch g ho hi).mp r
              exact ⟨oAt_lt ho h1, h2⟩
            · rintro ⟨hk, r⟩
              refine ⟨or.idxOf k, mem_reachL.mpr ⟨by rw [hl']; exact idx_lt ho hk, (ren_rch g ho hi).mpr ⟨idx_lt ho hk, ?_⟩⟩, oAt_idx ho hk⟩
              rw [oAt_idx ho hk]
              exact r
          refine PySem.W.ksm_same (py.trans (pm2.map _)) pw ?_
          rw [List.pairwise_map]
          exact (reachL_pw h _).imp fun h => by omega
        refine go_ifF A17 (EVT.cast (et_cmp (ev_callTy ca_tupleL rfl T.tuple (by decide +kernel) (es_cons (ev_var (i := 12) rfl (.inl rfl) rfl) es_nil)) (ev_call Fr (hr.mono (by decide)) rfl (es_cons (ev_var (i := 2) rfl (.inr (.inl rfl)) rfl) (es_cons (ev_ix (ev_var (i := 7) rfl (.inr (.inl rfl)) rfl) (ev_var (i := 9) rfl (.inl rfl) rfl) (ix_L ixo)) es_nil)) rfl ⟨h, oAt or i, g, hok, rfl, rfl⟩) (oc_ne hr (sh_Ns _) (sh_Ns _)) (nomark _)) (eqvT_self eqv_nat _)) fun H18 A18 => ?_
        refine go_ifF A18 (EVT.cast (et_cmp (ev_cmp (ev_var (i := 9) rfl (.inl rfl) rfl) (ev_call Fs (hr.mono (by decide)) rfl (es_cons (ev_var (i := 8) rfl (.inl rfl) rfl) es_nil) rfl ⟨ren h or, g', rfl, rfl⟩) (oc_inT hr (by rfl) (sh_Ns _)) (by rfl)) (ev_cmp (ev_ix (ev_var (i := 7) rfl (.inr (.inl rfl)) rfl) (ev_var (i := 9) rfl (.inl rfl) rfl) (ix_L ixo)) (ev_var (i := 5) rfl (.inl rfl) rfl) (oc_inT hr (by rfl) (sh_Ns _)) (by rfl)) (oc_ne hr (by rfl) (by rfl)) (nomark _)) ?_) fun H19 A19 => go_nil ⟨_, ⟨_, _, _, _, rfl⟩, A19⟩
        rw [any_nat, any_nat]
        have e2 : decide (i ∈ safeL (ren h or)) = decide (oAt or i ∈ safeL h) := by
          refine decide_eq_decide.mpr ?_
          unfold safeL
          rw [List.mem_filter, List.mem_filter, List.mem_range, List.mem_range, safeB_iff, safeB_iff, ren_safe g ho hi, hl']
          exact ⟨fun q => ⟨hok, q.2⟩, fun q => ⟨hi, q.2⟩⟩
        rw [e2]
        simp [PyData.eqv]
    · rintro ρ' σ' H' ⟨s9, s10, s11, s12, rfl⟩ A15
      have hb := back_ord ho
      refine go_setF A15 13 sc_law.nd rfl (.inl rfl) (ns := zs (backO h.length or)) (evf_tup (EVH.cast (EV.h (EVL.ev (el_mapT (ns := List.range h.length) (enc := dN) (dec := natOf) (own := [("k", 9)]) (u := fun d r => r.set 9 (some d)) (sl := [9]) (f := fun k => dN (or.idxOf k)) (fun _ _ => natOf_d _) rfl sc_law.nd (ITR.same (it_range (n := h.length) (es_cons (ev_var (i := 3) rfl (.inl rfl) rfl) es_nil) (by omega) rfl T.range)) (blkOk_by (N := NL) (sc := defScope s_law) (by decide +kernel)) (fun _ _ _ _ _ => (pg_name (i := 9) sc_law.nd rfl (.inl rfl))) (fun d _ => rg_name 9 _) (by decide) (fun k hk _ _ _ _ _ => ev_index (z := dN k) hr (ev_var (i := 7) rfl (.inr (.inl rfl)) rfl) (ev_var (i := 9) rfl (.inl rfl) rfl) (sh_mapL (n := 0) (f := dN) (fun _ => sh_int _) or) (by rfl) (ix_at ho (List.mem_range.mp hk)) (by rw [eqv_nat]; simp) (ix_no or k)) (fun _ _ => rfl) (by rw [List.length_range]; omega))) A15.envD) ?_) rfl T.tuple) fun l H16 fz A16 => ?_
      · rw [← dN_zs]
        unfold backO
        rw [List.map_map]
        rfl
      refine go_retH (EVH.cast (evh_and (evh_cmp (evh_renamed (h := ren h or) (o := backO h.length or) Fn (hr.mono (by decide)) rfl g' (by rw [hl']; exact hb) (EV.h (ev_var (i := 8) rfl (.inl rfl) rfl) A16.envD) fun H1 e1 => evf_var (i := 13) (A16.valF (i := 13) rfl) (fz.same e1) rfl (.inl rfl)) (fun H1 e1 => EV.h (ev_var (i := 2) rfl (.inr (.inl rfl)) rfl) (A16.to e1).envD) (oc_eq hr ((sh_H _).shaped (by decide)) ((sh_H _).shaped (by decide))) (nomark _)) fun _ H2 e2 => evh_one (evh_cmp (evh_renamed (h := h) (o := List.range h.length) Fn (hr.mono (by decide)) rfl g (List.Perm.refl _) (EV.h (ev_var (i := 2) rfl (.inr (.inl rfl)) rfl) (A16.to e2).envD) fun H3 e3 => evf_tup (EVH.cast (EV.h (EVL.ev (el_listRg rfl rfl T.list rfl T.range (ev_var (i := 3) rfl (.inl rfl) rfl) (by omega))) (A16.to (e2.trans e3)).envD) (by rw [rgD_eq, dN_zs])) rfl T.tuple) (fun H3 e3 => EV.h (ev_var (i := 2) rfl (.inr (.inl rfl)) rfl) (A16.to (e2.trans e3)).envD) (oc_eq hr ((sh_H _).shaped (by decide)) ((sh_H _).shaped (by decide))) (nomark _))) ?_) fun v H' e1 dv => q v H' (A16.same.trans e1) dv
      rw [ren_back g ho, ren_id g, eqv_H]
      simp
end
end TK

namespace TK
open PySem L2 TH PyProof.Rows
/-! ### what the top has written -/
theorem all_mk {l : PySem.W.OpenLaw} {w : World} {K : PySem.W.Frag} {h : Heap} {mg : Str → Option Value} {fa : Addr} (X : K.In h) (G : h.Ns mainGlobals mg) (hfa : mg "law" = some (.ref fa))
    {f_q0 : Addr} {oc_q0 kV_q0 dc_q0 pm_q0 cd_q0 ct_q0 : Value} {od_q0 an_q0 : Option Addr} {sl_q0 : Array (Option Value)}
    {f_q1 : Addr} {oc_q1 kV_q1 dc_q1 pm_q1 cd_q1 ct_q1 : Value} {od_q1 an_q1 : Option Addr} {sl_q1 : Array (Option Value)}
    {f_q2 : Addr} {oc_q2 kV_q2 dc_q2 pm_q2 cd_q2 ct_q2 : Value} {od_q2 an_q2 : Option Addr} {sl_q2 : Array (Option Value)}
    {f_q3 : Addr} {oc_q3 kV_q3 dc_q3 pm_q3 cd_q3 ct_q3 : Value} {od_q3 an_q3 : Option Addr} {sl_q3 : Array (Option Value)}
    {f_q4 : Addr} {oc_q4 kV_q4 dc_q4 pm_q4 cd_q4 ct_q4 : Value} {od_q4 an_q4 : Option Addr} {sl_q4 : Array (Option Value)}
    {f_q5 : Addr} {oc_q5 kV_q5 dc_q5 pm_q5 cd_q5 ct_q5 : Value} {od_q5 an_q5 : Option Addr} {sl_q5 : Array (Option Value)}
    {f_q6 : Addr} {oc_q6 kV_q6 dc_q6 pm_q6 cd_q6 ct_q6 : Value} {od_q6 an_q6 : Option Addr} {sl_q6 : Array (Option Value)}
    {f_q7 : Addr} {oc_q7 kV_q7 dc_q7 pm_q7 cd_q7 ct_q7 : Value} {od_q7 an_q7 : Option Addr} {sl_q7 : Array (Option Value)}
    {f_q8 : Addr} {oc_q8 kV_q8 dc_q8 pm_q8 cd_q8 ct_q8 : Value} {od_q8 an_q8 : Option Addr} {sl_q8 : Array (Option Value)}
    {f_q9 : Addr} {oc_q9 kV_q9 dc_q9 pm_q9 cd_q9 ct_q9 : Value} {od_q9 an_q9 : Option Addr} {sl_q9 : Array (Option Value)}
    {f_q10 : Addr} {oc_q10 kV_q10 dc_q10 pm_q10 cd_q10 ct_q10 : Value} {od_q10 an_q10 : Option Addr} {sl_q10 : Array (Option Value)}
    {f_q11 : Addr} {oc_q11 kV_q11 dc_q11 pm_q11 cd_q11 ct_q11 : Value} {od_q11 an_q11 : Option Addr} {sl_q11 : Array (Option Value)}
    {f_q12 : Addr} {oc_q12 kV_q12 dc_q12 pm_q12 cd_q12 ct_q12 : Value} {od_q12 an_q12 : Option Addr} {sl_q12 : Array (Option Value)}
    {f_q13 : Addr} {oc_q13 kV_q13 dc_q13 pm_q13 cd_q13 ct_q13 : Value} {od_q13 an_q13 : Option Addr} {sl_q13 : Array (Option Value)}
    {f_q14 : Addr} {oc_q14 kV_q14 dc_q14 pm_q14 cd_q14 ct_q14 : Value} {od_q14 an_q14 : Option Addr} {sl_q14 : Array (Option Value)}
    {f_q15 : Addr} {oc_q15 kV_q15 dc_q15 pm_q15 cd_q15 ct_q15 : Value} {od_q15 an_q15 : Option Addr} {sl_q15 : Array (Option Value)}
    {f_q16 : Addr} {oc_q16 kV_q16 dc_q16 pm_q16 cd_q16 ct_q16 : Value} {od_q16 an_q16 : Option Addr} {sl_q16 : Array (Option Value)}
    {f_q17 : Addr} {oc_q17 kV_q17 dc_q17 pm_q17 cd_q17 ct_q17 : Value} {od_q17 an_q17 : Option Addr} {sl_q17 : Array (Option Value)}
    {f_q18 : Addr} {oc_q18 kV_q18 dc_q18 pm_q18 cd_q18 ct_q18 : Value} {od_q18 an_q18 : Option Addr} {sl_q18 : Array (Option Value)}
    {f_q19 : Addr} {oc_q19 kV_q19 dc_q19 pm_q19 cd_q19 ct_q19 : Value} {od_q19 an_q19 : Option Addr} {sl_q19 : Array (Option Value)}
    {f_q20 : Addr} {oc_q20 kV_q20 dc_q20 pm_q20 cd_q20 ct_q20 : Value} {od_q20 an_q20 : Option Addr} {sl_q20 : Array (Option Value)}
    {f_ex : Addr} {od_ex : Option Addr} {sl_ex : Array (Option Value)} {n_ex : Nat} {t1 t2 t3 : Tok} (a_ex : PySem.W.nsIn K mainGlobals "EXITS" = some (some (.ref f_ex))) (l_ex : K.lookup f_ex = some ⟨.type "tuple", od_ex, .seq #[.str "A" t1, .str "B" t2, .str "C" t3] n_ex, sl_ex⟩)
    (a_q0 : PySem.W.nsIn K mainGlobals "is_between" = some (some (.ref f_q0))) (l_q0 : K.lookup f_q0 = some ⟨oc_q0, od_q0, .func (PySem.W.fnOf "is_between" "is_between" (defArgs s_is_between) (defBody s_is_between) (defScope s_is_between) .none kV_q0 dc_q0 pm_q0 an_q0 cd_q0 ct_q0), sl_q0⟩) (c_q0 : PySem.W.codeIn K cd_q0 "is_between" = true) (k_q0 : PySem.W.keepIn K (.ref f_q0) = true)
    (a_q1 : PySem.W.nsIn K mainGlobals "is_way" = some (some (.ref f_q1))) (l_q1 : K.lookup f_q1 = some ⟨oc_q1, od_q1, .func (PySem.W.fnOf "is_way" "is_way" (defArgs s_is_way) (defBody s_is_way) (defScope s_is_way) .none kV_q1 dc_q1 pm_q1 an_q1 cd_q1 ct_q1), sl_q1⟩) (c_q1 : PySem.W.codeIn K cd_q1 "is_way" = true) (k_q1 : PySem.W.keepIn K (.ref f_q1) = true)
    (a_q2 : PySem.W.nsIn K mainGlobals "is_house" = some (some (.ref f_q2))) (l_q2 : K.lookup f_q2 = some ⟨oc_q2, od_q2, .func (PySem.W.fnOf "is_house" "is_house" (defArgs s_is_house) (defBody s_is_house) (defScope s_is_house) .none kV_q2 dc_q2 pm_q2 an_q2 cd_q2 ct_q2), sl_q2⟩) (c_q2 : PySem.W.codeIn K cd_q2 "is_house" = true) (k_q2 : PySem.W.keepIn K (.ref f_q2) = true)
    (a_q3 : PySem.W.nsIn K mainGlobals "check_house" = some (some (.ref f_q3))) (l_q3 : K.lookup f_q3 = some ⟨oc_q3, od_q3, .func (PySem.W.fnOf "check_house" "check_house" (defArgs s_check_house) (defBody s_check_house) (defScope s_check_house) .none kV_q3 dc_q3 pm_q3 an_q3 cd_q3 ct_q3), sl_q3⟩) (c_q3 : PySem.W.codeIn K cd_q3 "check_house" = true) (k_q3 : PySem.W.keepIn K (.ref f_q3) = true)
    (a_q4 : PySem.W.nsIn K mainGlobals "check_hall" = some (some (.ref f_q4))) (l_q4 : K.lookup f_q4 = some ⟨oc_q4, od_q4, .func (PySem.W.fnOf "check_hall" "check_hall" (defArgs s_check_hall) (defBody s_check_hall) (defScope s_check_hall) .none kV_q4 dc_q4 pm_q4 an_q4 cd_q4 ct_q4), sl_q4⟩) (c_q4 : PySem.W.codeIn K cd_q4 "check_hall" = true) (k_q4 : PySem.W.keepIn K (.ref f_q4) = true)
    (a_q5 : PySem.W.nsIn K mainGlobals "found_exits" = some (some (.ref f_q5))) (l_q5 : K.lookup f_q5 = some ⟨oc_q5, od_q5, .func (PySem.W.fnOf "found_exits" "found_exits" (defArgs s_found_exits) (defBody s_found_exits) (defScope s_found_exits) .none kV_q5 dc_q5 pm_q5 an_q5 cd_q5 ct_q5), sl_q5⟩) (c_q5 : PySem.W.codeIn K cd_q5 "found_exits" = true) (k_q5 : PySem.W.keepIn K (.ref f_q5) = true)
    (a_q6 : PySem.W.nsIn K mainGlobals "exits" = some (some (.ref f_q6))) (l_q6 : K.lookup f_q6 = some ⟨oc_q6, od_q6, .func (PySem.W.fnOf "exits" "exits" (defArgs s_exits) (defBody s_exits) (defScope s_exits) .none kV_q6 dc_q6 pm_q6 an_q6 cd_q6 ct_q6), sl_q6⟩) (c_q6 : PySem.W.codeIn K cd_q6 "exits" = true) (k_q6 : PySem.W.keepIn K (.ref f_q6) = true)
    (a_q7 : PySem.W.nsIn K mainGlobals "met_from" = some (some (.ref f_q7))) (l_q7 : K.lookup f_q7 = some ⟨oc_q7, od_q7, .func (PySem.W.fnOf "met_from" "met_from" (defArgs s_met_from) (defBody s_met_from) (defScope s_met_from) .none kV_q7 dc_q7 pm_q7 an_q7 cd_q7 ct_q7), sl_q7⟩) (c_q7 : PySem.W.codeIn K cd_q7 "met_from" = true) (k_q7 : PySem.W.keepIn K (.ref f_q7) = true)
    (a_q8 : PySem.W.nsIn K mainGlobals "reached" = some (some (.ref f_q8))) (l_q8 : K.lookup f_q8 = some ⟨oc_q8, od_q8, .func (PySem.W.fnOf "reached" "reached" (defArgs s_reached) (defBody s_reached) (defScope s_reached) .none kV_q8 dc_q8 pm_q8 an_q8 cd_q8 ct_q8), sl_q8⟩) (c_q8 : PySem.W.codeIn K cd_q8 "reached" = true) (k_q8 : PySem.W.keepIn K (.ref f_q8) = true)
    (a_q9 : PySem.W.nsIn K mainGlobals "has_exit" = some (some (.ref f_q9))) (l_q9 : K.lookup f_q9 = some ⟨oc_q9, od_q9, .func (PySem.W.fnOf "has_exit" "has_exit" (defArgs s_has_exit) (defBody s_has_exit) (defScope s_has_exit) .none kV_q9 dc_q9 pm_q9 an_q9 cd_q9 ct_q9), sl_q9⟩) (c_q9 : PySem.W.codeIn K cd_q9 "has_exit" = true) (k_q9 : PySem.W.keepIn K (.ref f_q9) = true)
    (a_q10 : PySem.W.nsIn K mainGlobals "is_safe" = some (some (.ref f_q10))) (l_q10 : K.lookup f_q10 = some ⟨oc_q10, od_q10, .func (PySem.W.fnOf "is_safe" "is_safe" (defArgs s_is_safe) (defBody s_is_safe) (defScope s_is_safe) .none kV_q10 dc_q10 pm_q10 an_q10 cd_q10 ct_q10), sl_q10⟩) (c_q10 : PySem.W.codeIn K cd_q10 "is_safe" = true) (k_q10 : PySem.W.keepIn K (.ref f_q10) = true)
    (a_q11 : PySem.W.nsIn K mainGlobals "safe_halls" = some (some (.ref f_q11))) (l_q11 : K.lookup f_q11 = some ⟨oc_q11, od_q11, .func (PySem.W.fnOf "safe_halls" "safe_halls" (defArgs s_safe_halls) (defBody s_safe_halls) (defScope s_safe_halls) .none kV_q11 dc_q11 pm_q11 an_q11 cd_q11 ct_q11), sl_q11⟩) (c_q11 : PySem.W.codeIn K cd_q11 "safe_halls" = true) (k_q11 : PySem.W.keepIn K (.ref f_q11) = true)
    (a_q12 : PySem.W.nsIn K mainGlobals "renamed" = some (some (.ref f_q12))) (l_q12 : K.lookup f_q12 = some ⟨oc_q12, od_q12, .func (PySem.W.fnOf "renamed" "renamed" (defArgs s_renamed) (defBody s_renamed) (defScope s_renamed) .none kV_q12 dc_q12 pm_q12 an_q12 cd_q12 ct_q12), sl_q12⟩) (c_q12 : PySem.W.codeIn K cd_q12 "renamed" = true) (k_q12 : PySem.W.keepIn K (.ref f_q12) = true)
    (a_q13 : PySem.W.nsIn K mainGlobals "_law_town" = some (some (.ref f_q13))) (l_q13 : K.lookup f_q13 = some ⟨oc_q13, od_q13, .func (PySem.W.fnOf "_law_town" "_law_town" (defArgs s__law_town) (defBody s__law_town) (defScope s__law_town) .none kV_q13 dc_q13 pm_q13 an_q13 cd_q13 ct_q13), sl_q13⟩) (c_q13 : PySem.W.codeIn K cd_q13 "_law_town" = true) (k_q13 : PySem.W.keepIn K (.ref f_q13) = true)
    (a_q14 : PySem.W.nsIn K mainGlobals "_law_draw" = some (some (.ref f_q14))) (l_q14 : K.lookup f_q14 = some ⟨oc_q14, od_q14, .func (PySem.W.fnOf "_law_draw" "_law_draw" (defArgs s__law_draw) (defBody s__law_draw) (defScope s__law_draw) .none kV_q14 dc_q14 pm_q14 an_q14 cd_q14 ct_q14), sl_q14⟩) (c_q14 : PySem.W.codeIn K cd_q14 "_law_draw" = true) (k_q14 : PySem.W.keepIn K (.ref f_q14) = true)
    (a_q15 : PySem.W.nsIn K mainGlobals "_law_pick" = some (some (.ref f_q15))) (l_q15 : K.lookup f_q15 = some ⟨oc_q15, od_q15, .func (PySem.W.fnOf "_law_pick" "_law_pick" (defArgs s__law_pick) (defBody s__law_pick) (defScope s__law_pick) .none kV_q15 dc_q15 pm_q15 an_q15 cd_q15 ct_q15), sl_q15⟩) (c_q15 : PySem.W.codeIn K cd_q15 "_law_pick" = true) (k_q15 : PySem.W.keepIn K (.ref f_q15) = true)
    (a_q16 : PySem.W.nsIn K mainGlobals "_law_house" = some (some (.ref f_q16))) (l_q16 : K.lookup f_q16 = some ⟨oc_q16, od_q16, .func (PySem.W.fnOf "_law_house" "_law_house" (defArgs s__law_house) (defBody s__law_house) (defScope s__law_house) .none kV_q16 dc_q16 pm_q16 an_q16 cd_q16 ct_q16), sl_q16⟩) (c_q16 : PySem.W.codeIn K cd_q16 "_law_house" = true) (k_q16 : PySem.W.keepIn K (.ref f_q16) = true)
    (a_q17 : PySem.W.nsIn K mainGlobals "_law_exits" = some (some (.ref f_q17))) (l_q17 : K.lookup f_q17 = some ⟨oc_q17, od_q17, .func (PySem.W.fnOf "_law_exits" "_law_exits" (defArgs s__law_exits) (defBody s__law_exits) (defScope s__law_exits) .none kV_q17 dc_q17 pm_q17 an_q17 cd_q17 ct_q17), sl_q17⟩) (c_q17 : PySem.W.codeIn K cd_q17 "_law_exits" = true) (k_q17 : PySem.W.keepIn K (.ref f_q17) = true)
    (a_q18 : PySem.W.nsIn K mainGlobals "_law_reach" = some (some (.ref f_q18))) (l_q18 : K.lookup f_q18 = some ⟨oc_q18, od_q18, .func (PySem.W.fnOf "_law_reach" "_law_reach" (defArgs s__law_reach) (defBody s__law_reach) (defScope s__law_reach) .none kV_q18 dc_q18 pm_q18 an_q18 cd_q18 ct_q18), sl_q18⟩) (c_q18 : PySem.W.codeIn K cd_q18 "_law_reach" = true) (k_q18 : PySem.W.keepIn K (.ref f_q18) = true)
    (a_q19 : PySem.W.nsIn K mainGlobals "_law_safe" = some (some (.ref f_q19))) (l_q19 : K.lookup f_q19 = some ⟨oc_q19, od_q19, .func (PySem.W.fnOf "_law_safe" "_law_safe" (defArgs s__law_safe) (defBody s__law_safe) (defScope s__law_safe) .none kV_q19 dc_q19 pm_q19 an_q19 cd_q19 ct_q19), sl_q19⟩) (c_q19 : PySem.W.codeIn K cd_q19 "_law_safe" = true) (k_q19 : PySem.W.keepIn K (.ref f_q19) = true)
    (a_q20 : PySem.W.nsIn K mainGlobals "law" = some (some (.ref f_q20))) (l_q20 : K.lookup f_q20 = some ⟨oc_q20, od_q20, .func (PySem.W.fnOf "law" "law" (defArgs s_law) (defBody s_law) (defScope s_law) .none kV_q20 dc_q20 pm_q20 an_q20 cd_q20 ct_q20), sl_q20⟩) (c_q20 : PySem.W.codeIn K cd_q20 "law" = true) (k_q20 : PySem.W.keepIn K (.ref f_q20) = true)
    (b_isinstance : PySem.W.nsIn K mainGlobals "isinstance" = some none)
    (b_int : PySem.W.nsIn K mainGlobals "int" = some none)
    (b_bool : PySem.W.nsIn K mainGlobals "bool" = some none)
    (b_str : PySem.W.nsIn K mainGlobals "str" = some none)
    (b_tuple : PySem.W.nsIn K mainGlobals "tuple" = some none)
    (b_list : PySem.W.nsIn K mainGlobals "list" = some none)
    (b_dict : PySem.W.nsIn K mainGlobals "dict" = some none)
    (b_set : PySem.W.nsIn K mainGlobals "set" = some none)
    (b_len : PySem.W.nsIn K mainGlobals "len" = some none)
    (b_range : PySem.W.nsIn K mainGlobals "range" = some none)
    (b_sorted : PySem.W.nsIn K mainGlobals "sorted" = some none)
    (b_any : PySem.W.nsIn K mainGlobals "any" = some none)
    (b_all : PySem.W.nsIn K mainGlobals "all" = some none)
    (b_sum : PySem.W.nsIn K mainGlobals "sum" = some none)
    (b_abs : PySem.W.nsIn K mainGlobals "abs" = some none)
    (b_max : PySem.W.nsIn K mainGlobals "max" = some none)
    (b_min : PySem.W.nsIn K mainGlobals "min" = some none)
    (b_zip : PySem.W.nsIn K mainGlobals "zip" = some none)
    (b_enumerate : PySem.W.nsIn K mainGlobals "enumerate" = some none)
    : ∃ fd : FuncData, (∀ (s : Shared) (v : Value), BindsTo s fd ⟨[v], []⟩ [("script", v)]) ∧ ∀ base : Heap, K.In base → base.Ns mainGlobals mg → FnOk l.prog w K mg base CX0 6 fa fd ["script"] (sp_law K) := by
  have e := hfa.symm.trans (PySem.W.mg_of X G a_q20)
  cases e
  have T : Bts mg := ⟨PySem.W.mg_none_of X G b_isinstance, PySem.W.mg_none_of X G b_int, PySem.W.mg_none_of X G b_bool, PySem.W.mg_none_of X G b_str, PySem.W.mg_none_of X G b_tuple, PySem.W.mg_none_of X G b_list, PySem.W.mg_none_of X G b_dict, PySem.W.mg_none_of X G b_set, PySem.W.mg_none_of X G b_len, PySem.W.mg_none_of X G b_range, PySem.W.mg_none_of X G b_sorted, PySem.W.mg_none_of X G b_any, PySem.W.mg_none_of X G b_all, PySem.W.mg_none_of X G b_sum, PySem.W.mg_none_of X G b_abs, PySem.W.mg_none_of X G b_max, PySem.W.mg_none_of X G b_min, PySem.W.mg_none_of X G b_zip, PySem.W.mg_none_of X G b_enumerate⟩
  have G1 : GEx K mg := gex_mk (PySem.W.mg_of X G a_ex) l_ex
  have F_q0 := fun_mk (st := s_is_between) l_q0 c_q0 k_q0
  have L_is_between : Lnk K mg "is_between" s_is_between ["value", "low", "high"] := ⟨f_q0, _, PySem.W.mg_of X G a_q0, F_q0, F_q0.binds (ps := ["value", "low", "high"]) fun _ _ _ _ _ _ us hl => match us, hl with | [_, _, _], _ => rfl⟩
  have F_q1 := fun_mk (st := s_is_way) l_q1 c_q1 k_q1
  have L_is_way : Lnk K mg "is_way" s_is_way ["value", "halls"] := ⟨f_q1, _, PySem.W.mg_of X G a_q1, F_q1, F_q1.binds (ps := ["value", "halls"]) fun _ _ _ _ _ _ us hl => match us, hl with | [_, _], _ => rfl⟩
  have F_q2 := fun_mk (st := s_is_house) l_q2 c_q2 k_q2
  have L_is_house : Lnk K mg "is_house" s_is_house ["value"] := ⟨f_q2, _, PySem.W.mg_of X G a_q2, F_q2, F_q2.binds (ps := ["value"]) fun _ _ _ _ _ _ us hl => match us, hl with | [_], _ => rfl⟩
  have F_q3 := fun_mk (st := s_check_house) l_q3 c_q3 k_q3
  have L_check_house : Lnk K mg "check_house" s_check_house ["value"] := ⟨f_q3, _, PySem.W.mg_of X G a_q3, F_q3, F_q3.binds (ps := ["value"]) fun _ _ _ _ _ _ us hl => match us, hl with | [_], _ => rfl⟩
  have F_q4 := fun_mk (st := s_check_hall) l_q4 c_q4 k_q4
  have L_check_hall : Lnk K mg "check_hall" s_check_hall ["house", "hall"] := ⟨f_q4, _, PySem.W.mg_of X G a_q4, F_q4, F_q4.binds (ps := ["house", "hall"]) fun _ _ _ _ _ _ us hl => match us, hl with | [_, _], _ => rfl⟩
  have F_q5 := fun_mk (st := s_found_exits) l_q5 c_q5 k_q5
  have L_found_exits : Lnk K mg "found_exits" s_found_exits ["house"] := ⟨f_q5, _, PySem.W.mg_of X G a_q5, F_q5, F_q5.binds (ps := ["house"]) fun _ _ _ _ _ _ us hl => match us, hl with | [_], _ => rfl⟩
  have F_q6 := fun_mk (st := s_exits) l_q6 c_q6 k_q6
  have L_exits : Lnk K mg "exits" s_exits ["house"] := ⟨f_q6, _, PySem.W.mg_of X G a_q6, F_q6, F_q6.binds (ps := ["house"]) fun _ _ _ _ _ _ us hl => match us, hl with | [_], _ => rfl⟩
  have F_q7 := fun_mk (st := s_met_from) l_q7 c_q7 k_q7
  have L_met_from : Lnk K mg "met_from" s_met_from ["house", "hall"] := ⟨f_q7, _, PySem.W.mg_of X G a_q7, F_q7, F_q7.binds (ps := ["house", "hall"]) fun _ _ _ _ _ _ us hl => match us, hl with | [_, _], _ => rfl⟩
  have F_q8 := fun_mk (st := s_reached) l_q8 c_q8 k_q8
  have L_reached : Lnk K mg "reached" s_reached ["house", "hall"] := ⟨f_q8, _, PySem.W.mg_of X G a_q8, F_q8, F_q8.binds (ps := ["house", "hall"]) fun _ _ _ _ _ _ us hl => match us, hl with | [_, _], _ => rfl⟩
  have F_q9 := fun_mk (st := s_has_exit) l_q9 c_q9 k_q9
  have L_has_exit : Lnk K mg "has_exit" s_has_exit ["house", "hall"] := ⟨f_q9, _, PySem.W.mg_of X G a_q9, F_q9, F_q9.binds (ps := ["house", "hall"]) fun _ _ _ _ _ _ us hl => match us, hl with | [_, _], _ => rfl⟩
  have F_q10 := fun_mk (st := s_is_safe) l_q10 c_q10 k_q10
  have L_is_safe : Lnk K mg "is_safe" s_is_safe ["house", "hall"] := ⟨f_q10, _, PySem.W.mg_of X G a_q10, F_q10, F_q10.binds (ps := ["house", "hall"]) fun _ _ _ _ _ _ us hl => match us, hl with | [_, _], _ => rfl⟩
  have F_q11 := fun_mk (st := s_safe_halls) l_q11 c_q11 k_q11
  have L_safe_halls : Lnk K mg "safe_halls" s_safe_halls ["house"] := ⟨f_q11, _, PySem.W.mg_of X G a_q11, F_q11, F_q11.binds (ps := ["house"]) fun _ _ _ _ _ _ us hl => match us, hl with | [_], _ => rfl⟩
  have F_q12 := fun_mk (st := s_renamed) l_q12 c_q12 k_q12
  have L_renamed : Lnk K mg "renamed" s_renamed ["house", "order"] := ⟨f_q12, _, PySem.W.mg_of X G a_q12, F_q12, F_q12.binds (ps := ["house", "order"]) fun _ _ _ _ _ _ us hl => match us, hl with | [_, _], _ => rfl⟩
  have F_q13 := fun_mk (st := s__law_town) l_q13 c_q13 k_q13
  have L__law_town : Lnk K mg "_law_town" s__law_town ["script"] := ⟨f_q13, _, PySem.W.mg_of X G a_q13, F_q13, F_q13.binds (ps := ["script"]) fun _ _ _ _ _ _ us hl => match us, hl with | [_], _ => rfl⟩
  have F_q14 := fun_mk (st := s__law_draw) l_q14 c_q14 k_q14
  have L__law_draw : Lnk K mg "_law_draw" s__law_draw ["script", "town", "limit"] := ⟨f_q14, _, PySem.W.mg_of X G a_q14, F_q14, F_q14.binds (ps := ["script", "town", "limit"]) fun _ _ _ _ _ _ us hl => match us, hl with | [_, _, _], _ => rfl⟩
  have F_q15 := fun_mk (st := s__law_pick) l_q15 c_q15 k_q15
  have L__law_pick : Lnk K mg "_law_pick" s__law_pick ["script", "town", "choices"] := ⟨f_q15, _, PySem.W.mg_of X G a_q15, F_q15, F_q15.binds (ps := ["script", "town", "choices"]) fun _ _ _ _ _ _ us hl => match us, hl with | [_, _, _], _ => rfl⟩
  have F_q16 := fun_mk (st := s__law_house) l_q16 c_q16 k_q16
  have L__law_house : Lnk K mg "_law_house" s__law_house ["script", "town", "halls"] := ⟨f_q16, _, PySem.W.mg_of X G a_q16, F_q16, F_q16.binds (ps := ["script", "town", "halls"]) fun _ _ _ _ _ _ us hl => match us, hl with | [_, _, _], _ => rfl⟩
  have F_q17 := fun_mk (st := s__law_exits) l_q17 c_q17 k_q17
  have L__law_exits : Lnk K mg "_law_exits" s__law_exits ["house"] := ⟨f_q17, _, PySem.W.mg_of X G a_q17, F_q17, F_q17.binds (ps := ["house"]) fun _ _ _ _ _ _ us hl => match us, hl with | [_], _ => rfl⟩
  have F_q18 := fun_mk (st := s__law_reach) l_q18 c_q18 k_q18
  have L__law_reach : Lnk K mg "_law_reach" s__law_reach ["house", "hall"] := ⟨f_q18, _, PySem.W.mg_of X G a_q18, F_q18, F_q18.binds (ps := ["house", "hall"]) fun _ _ _ _ _ _ us hl => match us, hl with | [_, _], _ => rfl⟩
  have F_q19 := fun_mk (st := s__law_safe) l_q19 c_q19 k_q19
  have L__law_safe : Lnk K mg "_law_safe" s__law_safe ["house", "hall"] := ⟨f_q19, _, PySem.W.mg_of X G a_q19, F_q19, F_q19.binds (ps := ["house", "hall"]) fun _ _ _ _ _ _ us hl => match us, hl with | [_, _], _ => rfl⟩
  have F_q20 := fun_mk (st := s_law) l_q20 c_q20 k_q20
  refine ⟨PySem.W.fnOf "law" "law" (defArgs s_law) (defBody s_law) (defScope s_law) .none kV_q20 dc_q20 pm_q20 an_q20 cd_q20 ct_q20, fun s v => .of_eq rfl, fun base _ _ => ?_⟩
  have D_is_between := fd_is_between (P := l.prog) (w := w) (base := base) L_is_between T
  have D_is_way := fd_is_way (P := l.prog) (w := w) (base := base) L_is_way T G1 D_is_between
  have D_is_house := fd_is_house (P := l.prog) (w := w) (base := base) L_is_house T D_is_way
  have D_check_house := fd_check_house (P := l.prog) (w := w) (base := base) L_check_house D_is_house
  have D_check_hall := fd_check_hall (P := l.prog) (w := w) (base := base) L_check_hall T D_is_between
  have D_found_exits := fd_found_exits (P := l.prog) (w := w) (base := base) L_found_exits T
  have D_exits := fd_exits (P := l.prog) (w := w) (base := base) L_exits T D_check_house D_found_exits
  have D_met_from := fd_met_from (P := l.prog) (w := w) (base := base) L_met_from T
  have D_reached := fd_reached (P := l.prog) (w := w) (base := base) L_reached T D_check_house D_check_hall D_met_from
  have D_has_exit := fd_has_exit (P := l.prog) (w := w) (base := base) L_has_exit T D_met_from
  have D_is_safe := fd_is_safe (P := l.prog) (w := w) (base := base) L_is_safe T D_met_from D_has_exit
  have D_safe_halls := fd_safe_halls (P := l.prog) (w := w) (base := base) L_safe_halls T D_check_house D_is_safe
  have D_renamed := fd_renamed (P := l.prog) (w := w) (base := base) L_renamed T D_check_house D_is_between
  have D_law_town := fd__law_town (P := l.prog) (w := w) (base := base) L__law_town T
  have D_law_draw := fd__law_draw (P := l.prog) (w := w) (base := base) L__law_draw T
  have D_law_pick := fd__law_pick (P := l.prog) (w := w) (base := base) L__law_pick T D_law_draw
  have D_law_house := fd__law_house (P := l.prog) (w := w) (base := base) L__law_house T D_law_draw D_law_pick
  have D_law_exits := fd__law_exits (P := l.prog) (w := w) (base := base) L__law_exits T
  have D_law_reach := fd__law_reach (P := l.prog) (w := w) (base := base) L__law_reach T
  have D_law_safe := fd__law_safe (P := l.prog) (w := w) (base := base) L__law_safe T D_law_reach
  exact ok_law (P := l.prog) (w := w) (base := base) T D_law_town D_law_draw D_law_house D_exits D_law_exits D_is_house D_reached D_law_reach D_law_safe D_safe_halls D_renamed _ _ F_q20
theorem walk {l : PySem.W.OpenLaw} {q : Program} {loose : List Str} {XP : (Str → Option Value) → Heap → Prop} {YP : World → Heap → Prop} {d : DefRec} {K : Params → PySem.W.Frag} (hn : l.most = some 63) (hdf : d.params.defaults = []) (hY : ∀ (w : World) (h : Heap), YP w h → (K w.params).In h)
    (F : ∀ (w : World) (mg : Str → Option Value) (fa : Addr) (h : Heap), (K w.params).In h → h.Ns mainGlobals mg → mg d.name = some (.ref fa) → ∃ fd : FuncData, (∀ (s : Shared) (u : Value), BindsTo s fd ⟨[u], []⟩ [("script", u)]) ∧ ∀ base : Heap, (K w.params).In base → base.Ns mainGlobals mg → FnOk l.prog w (K w.params) mg base CX0 6 fa fd ["script"] (sp_law (K w.params))) :
    PySem.W.WalkO q loose XP YP l.row.toRowW d [] (fun f vs => PySem.call f vs) :=
  L2.walk_of (n := 63) (k := 6) (x := "script") (CX := fun _ => CX0) (sp := fun w => sp_law (K w.params)) hn (by decide) hdf ⟨rfl, by decide, by decide⟩ hY F (fun _ _ a ns hl _ hS => ⟨a, ns, rfl, hl, hS, fun _ => rfl⟩) fun _ _ _ _ _ z => z
end TK
open PySem PySem.W PyProof.Rows
set_option maxHeartbeats 0 in
theorem PySem.Challenge.cw_turnhalls_k02_whole_houses_holds : PySem.Challenge.rw_turnhalls_k02_whole_houses.Holds := by
  w_on; o_law; k_head; (case hw => w_witness2)
  k_fill
  refine TK.walk (l := PySem.Challenge.rw_turnhalls_k02_whole_houses) rfl rfl (fun w h Y => PySem.W.kIn_of Y) ?F
  case F =>
    intro w mg fa h KX G hmg
    refine' TK.all_mk KX G hmg ?a_ex ?l_ex ?a_q0 ?l_q0 ?c_q0 ?k_q0 ?a_q1 ?l_q1 ?c_q1 ?k_q1 ?a_q2 ?l_q2 ?c_q2 ?k_q2 ?a_q3 ?l_q3 ?c_q3 ?k_q3 ?a_q4 ?l_q4 ?c_q4 ?k_q4 ?a_q5 ?l_q5 ?c_q5 ?k_q5 ?a_q6 ?l_q6 ?c_q6 ?k_q6 ?a_q7 ?l_q7 ?c_q7 ?k_q7 ?a_q8 ?l_q8 ?c_q8 ?k_q8 ?a_q9 ?l_q9 ?c_q9 ?k_q9 ?a_q10 ?l_q10 ?c_q10 ?k_q10 ?a_q11 ?l_q11 ?c_q11 ?k_q11 ?a_q12 ?l_q12 ?c_q12 ?k_q12 ?a_q13 ?l_q13 ?c_q13 ?k_q13 ?a_q14 ?l_q14 ?c_q14 ?k_q14 ?a_q15 ?l_q15 ?c_q15 ?k_q15 ?a_q16 ?l_q16 ?c_q16 ?k_q16 ?a_q17 ?l_q17 ?c_q17 ?k_q17 ?a_q18 ?l_q18 ?c_q18 ?k_q18 ?a_q19 ?l_q19 ?c_q19 ?k_q19 ?a_q20 ?l_q20 ?c_q20 ?k_q20 ?b_isinstance ?b_int ?b_bool ?b_str ?b_tuple ?b_list ?b_dict ?b_set ?b_len ?b_range ?b_sorted ?b_any ?b_all ?b_sum ?b_abs ?b_max ?b_min ?b_zip ?b_enumerate
    (case a_ex => k_is)
    (case l_ex => k_is)
    (case a_q0 => k_is)
    (case l_q0 => k_is)
    (case c_q0 => k_is)
    (case k_q0 => k_is)
    (case a_q1 => k_is)
    (case l_q1 => k_is)
    (case c_q1 => k_is)
    (case k_q1 => k_is)
    (case a_q2 => k_is)
    (case l_q2 => k_is)
    (case c_q2 => k_is)
    (case k_q2 => k_is)
    (case a_q3 => k_is)
    (case l_q3 => k_is)
    (case c_q3 => k_is)
    (case k_q3 => k_is)
    (case a_q4 => k_is)
    (case l_q4 => k_is)
    (case c_q4 => k_is)
    (case k_q4 => k_is)
    (case a_q5 => k_is)
    (case l_q5 => k_is)
    (case c_q5 => k_is)
    (case k_q5 => k_is)
    (case a_q6 => k_is)
    (case l_q6 => k_is)
    (case c_q6 => k_is)
    (case k_q6 => k_is)
    (case a_q7 => k_is)
    (case l_q7 => k_is)
    (case c_q7 => k_is)
    (case k_q7 => k_is)
    (case a_q8 => k_is)
    (case l_q8 => k_is)
    (case c_q8 => k_is)
    (case k_q8 => k_is)
    (case a_q9 => k_is)
    (case l_q9 => k_is)
    (case c_q9 => k_is)
    (case k_q9 => k_is)
    (case a_q10 => k_is)
    (case l_q10 => k_is)
    (case c_q10 => k_is)
    (case k_q10 => k_is)
    (case a_q11 => k_is)
    (case l_q11 => k_is)
    (case c_q11 => k_is)
    (case k_q11 => k_is)
    (case a_q12 => k_is)
    (case l_q12 => k_is)
    (case c_q12 => k_is)
    (case k_q12 => k_is)
    (case a_q13 => k_is)
    (case l_q13 => k_is)
    (case c_q13 => k_is)
    (case k_q13 => k_is)
    (case a_q14 => k_is)
    (case l_q14 => k_is)
    (case c_q14 => k_is)
    (case k_q14 => k_is)
    (case a_q15 => k_is)
    (case l_q15 => k_is)
    (case c_q15 => k_is)
    (case k_q15 => k_is)
    (case a_q16 => k_is)
    (case l_q16 => k_is)
    (case c_q16 => k_is)
    (case k_q16 => k_is)
    (case a_q17 => k_is)
    (case l_q17 => k_is)
    (case c_q17 => k_is)
    (case k_q17 => k_is)
    (case a_q18 => k_is)
    (case l_q18 => k_is)
    (case c_q18 => k_is)
    (case k_q18 => k_is)
    (case a_q19 => k_is)
    (case l_q19 => k_is)
    (case c_q19 => k_is)
    (case k_q19 => k_is)
    (case a_q20 => k_is)
    (case l_q20 => k_is)
    (case c_q20 => k_is)
    (case k_q20 => k_is)
    (case b_isinstance => k_is)
    (case b_int => k_is)
    (case b_bool => k_is)
    (case b_str => k_is)
    (case b_tuple => k_is)
    (case b_list => k_is)
    (case b_dict => k_is)
    (case b_set => k_is)
    (case b_len => k_is)
    (case b_range => k_is)
    (case b_sorted => k_is)
    (case b_any => k_is)
    (case b_all => k_is)
    (case b_sum => k_is)
    (case b_abs => k_is)
    (case b_max => k_is)
    (case b_min => k_is)
    (case b_zip => k_is)
    (case b_enumerate => k_is)
